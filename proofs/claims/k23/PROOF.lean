import PyProof.Rows.All
import Wide.All
import OpenK.AllK
import Wide.FinOn
import KE.KStateDown
import Lean
import HandS.Head0
import HandS.Head1
import HandS.Head2
import HandS.HeadEnd
import HandS.HeadHook1
import HandS.HeadHook2
import HandS.HeadHook3
import HandS.HeadHook4
import HandS.ForMost
import HandS.Deep
import HandS.ForExc
import HandS.Iter
import HandS.Zip
import HandS.Rev
import HandS.Conv
import HandS.TupAny
import HandS.TupMul
import KE.KIndexOf
import HandS.Lambda
import HandS.Dict
import HandS.More
import HandS.Wide
import HandS.IsInst
import HandS.Style
import HandS.Defaults
import HandS.HeadNt
import KE.GoesMore
import PyProof.SeqIndex
import PyProof.ReprRoads
import KE.DataMinMax
import KE.KRevSl
import PyProof.ReprLen
import HandS.SortKw
import HandS.SetFor
import HandS.SortInts
import HandS.SortOrd
import PyProof.Rows.SortShell
import PyProof.SumWalkG
import KE.KIsAll
import HandS.Exc
import HandS.ExcIs
import HandS.ExcValue
import KE.KSliceW
import HandS.Walk
import KE.KDictPairs
import HandS.ClsMeth
import PyProof.TupleOfSeq
import PyProof.TupleOfGen
import PyProof.ListNew
import KE.KItemsList
import KE.KDictList
import HandS.ListItems
import PyProof.NeKinds
import PyProof.EqAt
import PyProof.CallStr
import PyProof.EqKinds
import PyProof.Rows.IntBool
import PyProof.StrOps2
import KE.KIntText
import KE.GoesZip
import PySem.Challenge.RW_turnshelf_k23_whole_one_tree_a_set
set_option Elab.async false
set_option linter.all false
set_option maxRecDepth 100000
set_option Elab.async false
set_option linter.all false
set_option maxRecDepth 100000
namespace DL
open PySem PySem.Spec PyProof.Rows L2
section
variable {X : Cx} {pins : List (Addr × Obj)} {σ : L2.St} {H : Hp} {s : Shared} {Q : VK} {vs : List V} {us : List Value} {es : List Expr} {t : TA} {pos : Pos}
def Fz (Q : VK) (H : Hp) (vs : List V) : Prop := ∀ p o, o.dict = none → H p = none → Q (.ref p) (upd H p (.frz o (.tup vs)))
theorem laid_fz {k : Nat} (I : Inv X pins σ H s) (r : Vals vs us) (hz : vs.length ≤ sizeLine) (h : Fz Q H vs) :
    EP X pins σ Q (.ref s.heap.objs.size) { s with toks := k, heap := s.heap.push { cls := .type "tuple", data := .seq us.toArray } } :=
  ⟨.ref s.heap.objs.size, _, I.laid (fun b u q => Heap.get?_push_of_some _ q) (Nat.le_refl _) (o := .frz _ (.tup vs)) ⟨Heap.get?_push_size _ rfl, hz, us, r, IsTup.new _ _⟩, rfl, h _ _ rfl (I.hok.fresh (Nat.le_refl _))⟩
def tTupF (t : TA) : TE := fun σ H Q => t σ H fun xs H1 => xs.length ≤ sizeLine ∧ Fz Q H1 xs
theorem pe_tupF {x1} (h : PA X es t) : PE X (.Tuple es x1 pos) (tTupF t) :=
  ⟨fun pins s σ H Q I hq => wpAny_Tuple_spliced (thn (h.run pos pins s σ H _ I hq) fun us s1 ⟨xs, H1, I1, r, z, q⟩ => ⟨by rw [← r.length]; exact z, laid_fz (k := s1.toks) I1 r z q⟩)⟩
/-- t + u -/
def rCatF (K : PySem.W.Frag) : R2 := fun x y H Q => ∃ a b xs ys, x = .ref a ∧ y = .ref b ∧ SqT K H a xs ∧ SqT K H b ys ∧ xs.length + ys.length ≤ sizeLine ∧
  (xs = [] → Q (.ref b) H) ∧ (xs ≠ [] → ys = [] → Q (.ref a) H) ∧ (xs ≠ [] → ys ≠ [] → Fz Q H (xs ++ ys))
theorem op_catF : OpR X (binaryOp .Add) (rCatF X.K) := by
  intro pins s σ H x y v u Q I rx ry h
  obtain ⟨a, b, xs, ys, rfl, rfl, ha, hb, hz, q0, q1, q2⟩ := h
  by_cases hx : xs = []
  · exact op_catA pins s σ H _ _ v u Q I rx ry ⟨a, b, xs, ys, rfl, rfl, ha, hb, hz, q0, q1, fun z => absurd hx z⟩
  · by_cases hy : ys = []
    · exact op_catA pins s σ H _ _ v u Q I rx ry ⟨a, b, xs, ys, rfl, rfl, ha, hb, hz, q0, q1, fun _ z => absurd hy z⟩
    · cases rx
      cases ry
      obtain ⟨its, r1, p1, _⟩ := I.tuple ha
      obtain ⟨its2, r2, p2, _⟩ := I.tuple hb
      refine HT.cat_tup p1 p2 (fun z => hx (r1.nil_iff.mp z)) (fun z => absurd (r2.nil_iff.mp z) hy) (fun z => ?_) (by rw [← r1.length, ← r2.length]; exact hz)
      exact laid_fz (k := s.toks) I (r1.append r2) (by rw [List.length_append]; exact hz) (q2 hx hy)
/-- t[lo:hi] -/
def rSlF (K : PySem.W.Frag) : V → Option Int → Option Int → Hp → VK → Prop := fun x lo hi H Q => ∃ a xs, x = .ref a ∧ SqT K H a xs ∧
  (HT.sIx xs.length 0 lo = 0 ∧ HT.sIx xs.length xs.length hi = xs.length → Q (.ref a) H) ∧ (¬ (HT.sIx xs.length 0 lo = 0 ∧ HT.sIx xs.length xs.length hi = xs.length) → Fz Q H (cutV xs lo hi))
theorem sl_tupF : SlR X (rSlF X.K) := by
  intro pins s σ H x v vl vu lo hi sl Q I rx hs pl pu h
  obtain ⟨a, xs, rfl, hx, q1, q2⟩ := h
  by_cases hw : HT.sIx xs.length 0 lo = 0 ∧ HT.sIx xs.length xs.length hi = xs.length
  · exact sl_tupA pins s σ H _ v vl vu lo hi sl Q I rx hs pl pu ⟨a, xs, rfl, hx, q1, fun z => absurd hw z⟩
  · cases rx
    obtain ⟨its, r, ht, hz⟩ := I.tuple hx
    have hlen : its.toArray.size = xs.length := by rw [List.size_toArray]; exact r.length.symm
    refine ⟨"tuple", _, PyProof.Rows.slot_tuple_getitem.lookup, ht.typeIs, ?_⟩
    refine HT.getItem_tuple_cut ht hs pl pu (by rw [hlen]; exact hw) ?_ (by rw [hlen]; exact hz)
    rw [hlen]
    exact laid_fz (k := s.toks) I ((r.drop (HT.sIx xs.length 0 lo)).take (HT.sIx xs.length xs.length hi - HT.sIx xs.length 0 lo)) (Nat.le_trans (cutV_length xs lo hi) hz) (q2 hw)
/-- tuple(xs) -/
theorem call_tuple_ofF : CallR X (.type "tuple") (fun xs H Q => ∃ p ys, xs = [.ref p] ∧ ((SqL X.K H p ys ∧ Fz Q H ys) ∨ (SqT X.K H p ys ∧ Q (.ref p) H))) := by
  intro pins s σ H xs us Q I r h
  obtain ⟨p, ys, rfl, ⟨hq, q⟩ | ⟨hq, q⟩⟩ := h
  · obtain ⟨u, rfl, rx⟩ := vals1 r
    cases rx
    obtain ⟨its, r', pl, hz⟩ := I.list hq
    have hlen := r'.length
    refine call_tuple_list pl.isList (fun h' kp => ?_) (by simp only [List.size_toArray] <;> omega)
    exact laid_fz (k := s.toks) (s := { s with heap := h' }) (I.kept (t' := s.toks) kp) r' hz q
  · exact call_tuple_of pins s σ H _ us Q I r ⟨p, ys, rfl, .inr ⟨hq, q⟩⟩
def KTup (K : PySem.W.Frag) (a : Addr) (vs : List V) : Prop := ∃ (o : Obj) (its : Array Value) (n : Nat), K.lookup a = some o ∧ o.cls = .type "tuple" ∧ o.dict = none ∧ o.data = .seq its n ∧ its.size ≤ sizeLine ∧ Vals vs its.toList
/-- a tuple of a known object -/
def TupK (K : PySem.W.Frag) (H : Hp) (a : Addr) (vs : List V) : Prop := (∃ o, o.dict = none ∧ H a = some (.frz o (.tup vs))) ∨ KTup K a vs
theorem TupK.sq {K : PySem.W.Frag} {a : Addr} (h : TupK K H a vs) : SqT K H a vs := by
  rcases h with ⟨o, _, e⟩ | ⟨o, its, n, h1, h2, _, h3, h4, h5⟩
  · exact .inl (.inr ⟨o, e⟩)
  · exact .inr ⟨o, its, n, h1, h2, h3, h4, h5⟩
instance {K : PySem.W.Frag} {H : Hp} {a : Addr} {vs : List V} : Coe (TupK K H a vs) (SqT K H a vs) := ⟨TupK.sq⟩
end
end DL
set_option Elab.async false
set_option linter.all false
set_option maxRecDepth 100000
namespace DL
open PySem PySem.Spec PyProof.Rows L2
/-- data by value; ref: a thing by reference (a def, a class, an object in memory) -/
inductive D where
  | non | bl (b : Bool) | int (i : Int) | str (x : Str) | ty (n : String) | ref (a : Addr)
  | tup (xs : List D) | lst (xs : List D)
  | dic (kvs : List (Key × D))
/-- the written part alone -/
abbrev H0e : Hp := fun _ => none
def TupAt (K : PySem.W.Frag) (A : Addr → Prop) (H : Hp) (a : Addr) (vs : List V) : Prop := (¬ A a ∧ ∃ o, o.dict = none ∧ H a = some (.frz o (.tup vs))) ∨ KTup K a vs
def LstAt (A : Addr → Prop) (H : Hp) (a : Addr) (vs : List V) : Prop := ¬ A a ∧ H a = some (.lst vs)
/-- by value: it is never written again -/
def DicAt (A : Addr → Prop) (H : Hp) (a : Addr) (kvs : List (Key × V)) : Prop := ¬ A a ∧ ∃ o, H a = some (.frz o (.dK kvs))
section
variable (K : PySem.W.Frag) (A : Addr → Prop) (H : Hp)
mutual
/-- v bears d, standing on nothing that A names -/
inductive Is : V → D → Prop
  | non : Is .non .non
  | bl (b : Bool) : Is (.bl b) (.bl b)
  | int (i : Int) : Is (.int i) (.int i)
  | str (x : Str) : Is (.str x) (.str x)
  | ty (n : String) : Is (.ty n) (.ty n)
  | ref (a : Addr) : Is (.ref a) (.ref a)
  | tup {a : Addr} {vs : List V} {ds : List D} : TupAt K A H a vs → IsL vs ds → Is (.ref a) (.tup ds)
  | lst {a : Addr} {vs : List V} {ds : List D} : LstAt A H a vs → IsL vs ds → Is (.ref a) (.lst ds)
  | dic {a : Addr} {kvs : List (Key × V)} {kds : List (Key × D)} : DicAt A H a kvs → IsK kvs kds → Is (.ref a) (.dic kds)
inductive IsL : List V → List D → Prop
  | nil : IsL [] []
  | cons {v : V} {d : D} {vs : List V} {ds : List D} : Is v d → IsL vs ds → IsL (v :: vs) (d :: ds)
inductive IsK : List (Key × V) → List (Key × D) → Prop
  | nil : IsK [] []
  | cons {k : Key} {v : V} {d : D} {vs : List (Key × V)} {ds : List (Key × D)} : Is v d → IsK vs ds → IsK ((k, v) :: vs) ((k, d) :: ds)
end
end
/-- what is tracked and may not change stays, and may not change later either -/
def Step (A : Addr → Prop) (H : Hp) (A' : Addr → Prop) (H' : Hp) : Prop := ∀ a o, H a = some o → ¬ A a → H' a = some o ∧ ¬ A' a
theorem Step.refl (A : Addr → Prop) (H : Hp) : Step A H A H := fun _ _ h n => ⟨h, n⟩
theorem Step.trans {A A' A'' : Addr → Prop} {H H' H'' : Hp} (x : Step A H A' H') (y : Step A' H' A'' H'') : Step A H A'' H'' := fun a o h n =>
  let ⟨h1, n1⟩ := x a o h n
  y a o h1 n1
section
variable {K : PySem.W.Frag} {A A' B : Addr → Prop} {H H' : Hp}
theorem Rd.step {u : HO} {a : Addr} (s : Step A H A' H') (n : ¬ A a) (r : Rd H a u) : Rd H' a u ∧ ¬ A' a := by
  rcases r with r | ⟨o, r⟩
  · exact ⟨.inl (s a _ r n).1, (s a _ r n).2⟩
  · exact ⟨.inr ⟨o, (s a _ r n).1⟩, (s a _ r n).2⟩
theorem TupAt.step {a : Addr} {vs : List V} (s : Step A H A' H') (h : TupAt K A H a vs) : TupAt K A' H' a vs := by
  rcases h with ⟨n, o, d, e⟩ | h
  · exact .inl ⟨(s a _ e n).2, o, d, (s a _ e n).1⟩
  · exact .inr h
theorem LstAt.step {a : Addr} {vs : List V} (s : Step A H A' H') (h : LstAt A H a vs) : LstAt A' H' a vs := ⟨(s a _ h.2 h.1).2, (s a _ h.2 h.1).1⟩
theorem DicAt.step {a : Addr} {vs : List (Key × V)} (s : Step A H A' H') (h : DicAt A H a vs) : DicAt A' H' a vs := let ⟨n, o, e⟩ := h; ⟨(s a _ e n).2, o, (s a _ e n).1⟩
theorem SqL.of0 {a : Addr} {vs : List V} (h : SqL K H0e a vs) : SqL K H a vs := by
  rcases h with (h | ⟨o, h⟩) | h
  · cases h
  · cases h
  · exact .inr h
theorem TupAt.sq {a : Addr} {vs : List V} (h : TupAt K A H a vs) : SqT K H a vs := by
  rcases h with ⟨_, o, _, e⟩ | ⟨o, its, n, h1, h2, _, h3, h4, h5⟩
  · exact .inl (.inr ⟨o, e⟩)
  · exact .inr ⟨o, its, n, h1, h2, h3, h4, h5⟩
theorem TupAt.tk {a : Addr} {vs : List V} (h : TupAt K A H a vs) : TupK K H a vs := by
  rcases h with ⟨_, h⟩ | h
  · exact .inl h
  · exact .inr h
mutual
theorem Is.step (s : Step A H A' H') : ∀ {v : V} {d : D}, Is K A H v d → Is K A' H' v d
  | _, _, .non => .non
  | _, _, .bl b => .bl b
  | _, _, .int i => .int i
  | _, _, .str x => .str x
  | _, _, .ty n => .ty n
  | _, _, .ref a => .ref a
  | _, _, .tup h l => .tup (h.step s) (IsL.step s l)
  | _, _, .lst h l => .lst (h.step s) (IsL.step s l)
  | _, _, .dic h l => .dic (h.step s) (IsK.step s l)
theorem IsL.step (s : Step A H A' H') : ∀ {v : List V} {d : List D}, IsL K A H v d → IsL K A' H' v d
  | _, _, .nil => .nil
  | _, _, .cons h l => .cons (Is.step s h) (IsL.step s l)
theorem IsK.step (s : Step A H A' H') : ∀ {v : List (Key × V)} {d : List (Key × D)}, IsK K A H v d → IsK K A' H' v d
  | _, _, .nil => .nil
  | _, _, .cons h l => .cons (Is.step s h) (IsK.step s l)
end
theorem IsL.length : ∀ {vs : List V} {ds : List D}, IsL K A H vs ds → vs.length = ds.length
  | _, _, .nil => rfl
  | _, _, .cons _ l => congrArg (· + 1) (IsL.length l)
theorem IsL.get : ∀ {vs : List V} {ds : List D} {i : Nat} {d : D}, IsL K A H vs ds → ds[i]? = some d → ∃ v, vs[i]? = some v ∧ Is K A H v d
  | _, _, _, _, .nil, e => by simp at e
  | _, _, 0, _, .cons h _, e => by simp at e; subst e; exact ⟨_, rfl, h⟩
  | _, _, i + 1, d, .cons _ t, e => by
    obtain ⟨v, h1, h2⟩ := IsL.get (i := i) (d := d) t (by simpa using e)
    exact ⟨v, by simpa using h1, h2⟩
theorem IsL.append : ∀ {vs ws : List V} {ds es : List D}, IsL K A H vs ds → IsL K A H ws es → IsL K A H (vs ++ ws) (ds ++ es)
  | _, _, _, _, .nil, y => y
  | _, _, _, _, .cons h t, y => .cons h (IsL.append t y)
theorem IsL.take : ∀ {vs : List V} {ds : List D} (n : Nat), IsL K A H vs ds → IsL K A H (vs.take n) (ds.take n)
  | _, _, 0, _ => .nil
  | _, _, _ + 1, .nil => .nil
  | _, _, n + 1, .cons h t => .cons h (IsL.take n t)
theorem IsL.drop : ∀ {vs : List V} {ds : List D} (n : Nat), IsL K A H vs ds → IsL K A H (vs.drop n) (ds.drop n)
  | _, _, 0, h => h
  | _, _, _ + 1, .nil => .nil
  | _, _, n + 1, .cons _ t => IsL.drop n t
theorem IsL.set {v : V} {d : D} (h : Is K A H v d) : ∀ {vs : List V} {ds : List D} (i : Nat), IsL K A H vs ds → IsL K A H (vs.set i v) (ds.set i d)
  | _, _, _, .nil => .nil
  | _, _, 0, .cons _ t => .cons h t
  | _, _, i + 1, .cons q t => .cons q (IsL.set h i t)
theorem IsL.reverse : ∀ {vs : List V} {ds : List D}, IsL K A H vs ds → IsL K A H vs.reverse ds.reverse
  | _, _, .nil => .nil
  | _, _, .cons h t => by
    rw [List.reverse_cons, List.reverse_cons]
    exact (IsL.reverse t).append (.cons h .nil)
theorem IsL.ints : ∀ (ns : List Int), IsL K A H (ns.map V.int) (ns.map D.int)
  | [] => .nil
  | n :: r => .cons (.int n) (IsL.ints r)
end
mutual
def D.py : D → PyData
  | .non => .none
  | .bl b => .bool b
  | .int i => .int i
  | .str x => .str x
  | .tup xs => .tuple (D.pyL xs)
  | .lst xs => .list (D.pyL xs)
  | _ => .none
def D.pyL : List D → List PyData
  | [] => []
  | d :: r => d.py :: D.pyL r
end
mutual
/-- no reference, no type, no dict within -/
def D.pl : D → Bool
  | .non | .bl _ | .int _ | .str _ => true
  | .tup xs | .lst xs => D.plL xs
  | _ => false
def D.plL : List D → Bool
  | [] => true
  | d :: r => d.pl && D.plL r
end
section
variable {K : PySem.W.Frag} {A : Addr → Prop} {H : Hp}
mutual
theorem Is.dp : ∀ {v : V} {d : D}, Is K A H v d → d.pl = true → Dp K H v d.py
  | _, _, .non, _ => .non
  | _, _, .bl b, _ => .bl b
  | _, _, .int i, _ => .int i
  | _, _, .str x, _ => .str x
  | _, _, .ty n, h => by simp [D.pl] at h
  | _, _, .ref a, h => by simp [D.pl] at h
  | _, _, .tup h l, e => .tup h.sq (IsL.dp l (by simpa [D.pl] using e))
  | _, _, .lst h l, e => .lst (SqL.of h.2) (IsL.dp l (by simpa [D.pl] using e))
  | _, _, .dic h l, e => by simp [D.pl] at e
theorem IsL.dp : ∀ {vs : List V} {ds : List D}, IsL K A H vs ds → D.plL ds = true → DpAll K H vs (D.pyL ds)
  | _, _, .nil, _ => .nil
  | _, _, .cons h l, e => by
    have e' : _ ∧ _ := Bool.and_eq_true_iff.mp (by simpa only [D.plL] using e)
    exact .cons (Is.dp h e'.1) (IsL.dp l e'.2)
end
end
/-- a slot's, or a field's, own list or dict -/
inductive OM where
  | lst (ds : List D) | dic (kvs : List (Key × D))
inductive Fl where
  | v (d : D) | o (m : OM)
inductive MO where
  | om (m : OM)
  | ins (C : Addr) (fs : List (Str × Fl))
  /-- a dict of the law's drawing: by what is true of it -/
  | st
  /-- a thing of any other kind -/
  | ho (o : HO)
  /-- a def's table of code objects: all that it tells bear the name q -/
  | tab (q : Str)
abbrev Mem := Addr → Option MO
def mup (M : Mem) (a : Addr) (o : MO) : Mem := fun b => if b = a then some o else M b
theorem mup_same {M : Mem} {a : Addr} {o : MO} : mup M a o a = some o := by unfold mup; rw [if_pos rfl]
theorem mup_ne {M : Mem} {a b : Addr} {o : MO} (h : b ≠ a) : mup M a o b = M b := by unfold mup; rw [if_neg h]
theorem mup_mup {M : Mem} {a : Addr} {o u : MO} : mup (mup M a o) a u = mup M a u := by
  funext b; unfold mup; split <;> rfl
theorem mup_self {M : Mem} {a : Addr} {o : MO} (h : M a = some o) : mup M a o = M := by
  funext b; unfold mup; split
  · rename_i e; rw [e, h]
  · rfl
/-- whose an address is: the i-th slot's, or a field's -/
inductive Ow where
  | slot (i : Nat) | fld (a : Addr) (f : Str)
abbrev Own := Addr → Option Ow
def Mut (M : Mem) (O : Own) (a : Addr) : Prop := M a ≠ none ∨ O a ≠ none
def Av (B : Addr → Prop) (M : Mem) (O : Own) (a : Addr) : Prop := B a ∨ Mut M O a
section
variable (K : PySem.W.Frag) (A : Addr → Prop) (H : Hp)
def OOk (a : Addr) : OM → Prop
  | .lst ds => ∃ vs, H a = some (.lst vs) ∧ IsL K A H vs ds
  | .dic kds => ∃ kvs, H a = some (.dK kvs) ∧ IsK K A H kvs kds
/-- the drawing's state, as its dict's entries -/
def stD (ns : List Int) (at_ rest turn more : Int) : List (Key × D) :=
  [(Sum.inr "cells", D.lst (ns.map D.int)), (Sum.inr "at", D.int at_), (Sum.inr "rest", D.int rest), (Sum.inr "turn", D.int turn), (Sum.inr "more", D.int more)]
def StOk (kvs : List (Key × D)) : Prop := ∃ (ns : List Int) (at_ rest turn more : Int), kvs = stD ns at_ rest turn more ∧
  ns.length ≤ 63 ∧ (∀ n ∈ ns, 0 ≤ n) ∧ 0 ≤ at_ ∧ 0 ≤ rest ∧ 0 ≤ turn ∧ 0 ≤ more ∧ more < 2147483648
inductive FlsOk (O : Own) (a : Addr) : List (Str × V) → List (Str × Fl) → Prop
  | nil : FlsOk O a [] []
  | v {f : Str} {v : V} {d : D} {vs : List (Str × V)} {fs : List (Str × Fl)} : Is K A H v d → FlsOk O a vs fs → FlsOk O a ((f, v) :: vs) ((f, .v d) :: fs)
  | o {f : Str} {l : Addr} {m : OM} {vs : List (Str × V)} {fs : List (Str × Fl)} : O l = some (.fld a f) → OOk K A H l m → FlsOk O a vs fs → FlsOk O a ((f, .ref l) :: vs) ((f, .o m) :: fs)
def TabOk (a : Addr) (q : Str) : Prop := ∃ ps : Array Value, H a = some (.tbl ps) ∧ TriplesOk ps.toList ∧ ∀ (pos : Pos) (cv : Value), codeAmong pos ps.toList = some cv → ∃ c, cv = .ref c ∧ H c = some (LamX.CodeO c q) ∧ ¬ A c
def MOk (O : Own) (a : Addr) : MO → Prop
  | .om m => OOk K A H a m
  | .ins C fs => ∃ dx vs, H a = some (.ins C dx vs) ∧ FlsOk K A H O a vs fs
  | .st => ∃ kds, StOk kds ∧ OOk K A H a (.dic kds)
  | .ho o => H a = some o
  | .tab q => TabOk A H a q
end
structure MemOk (K : PySem.W.Frag) (B : Addr → Prop) (H : Hp) (M : Mem) (O : Own) : Prop where
  mem : ∀ a mo, M a = some mo → ¬ B a ∧ O a = none ∧ MOk K (Av B M O) H O a mo
  own : ∀ a w, O a = some w → ¬ B a ∧ H a ≠ none
  btr : ∀ a, B a → H a ≠ none
/-- what a lambda that was handed in does: its address, where it was made, its reading -/
structure Lm where
  f : Addr
  U : Addr → Prop
  H : Hp
  tl : Mem → (D → Mem → Prop) → (Addr → Mem → Prop) → Prop
/-- a slot: unset, a value, an own list or dict, a list or tuple that is lent (true: a tuple), the script -/
inductive Sl where
  | n | v (d : D) | o (m : OM) | b (k : Bool) (ds : List D) | s (ns : List Int) | f (l : Lm)
/-- it stands, as long as nothing but what U names changes -/
def Lent (k : Bool) (K : PySem.W.Frag) (U : Addr → Prop) (H : Hp) (a : Addr) (vs : List V) : Prop := if k = true then TupAt K U H a vs else LstAt U H a vs
theorem Lent.step {k : Bool} {K : PySem.W.Frag} {U U' : Addr → Prop} {H H' : Hp} {a : Addr} {vs : List V} (s : Step U H U' H') (h : Lent k K U H a vs) : Lent k K U' H' a vs := by
  cases k with
  | true => exact TupAt.step s (show TupAt K U H a vs from h)
  | false => exact LstAt.step s (show LstAt U H a vs from h)
/-- the script -/
def ScrAt (K : PySem.W.Frag) (U : Addr → Prop) (H : Hp) (a : Addr) (ns : List Int) : Prop := (¬ U a ∧ Rd H a (.lst (ns.map V.int))) ∨ SqL K H0e a (ns.map V.int)
theorem ScrAt.step {K : PySem.W.Frag} {U U' : Addr → Prop} {H H' : Hp} {a : Addr} {vs : List Int} (s : Step U H U' H') (h : ScrAt K U H a vs) : ScrAt K U' H' a vs := by
  rcases h with ⟨n, r⟩ | h
  · exact .inl ⟨(Rd.step s n r).2, (Rd.step s n r).1⟩
  · exact .inr h
theorem ScrAt.sq {K : PySem.W.Frag} {U : Addr → Prop} {H : Hp} {a : Addr} {vs : List Int} (h : ScrAt K U H a vs) : SqL K H a (vs.map V.int) := by
  rcases h with ⟨_, h⟩ | h
  · exact .inl h
  · exact SqL.of0 h
def SlU (K : PySem.W.Frag) (A U : Addr → Prop) (O : Own) (H : Hp) (i : Nat) (x : Option V) : Sl → Prop
  | .n => True
  | .v d => ∃ v, x = some v ∧ Is K A H v d
  | .o m => ∃ a, x = some (.ref a) ∧ O a = some (.slot i) ∧ OOk K A H a m
  | .b k ds => ∃ a vs, x = some (.ref a) ∧ Lent k K U H a vs ∧ IsL K A H vs ds
  | .s ns => ∃ a, x = some (.ref a) ∧ ScrAt K U H a ns
  | .f l => x = some (.ref l.f) ∧ Step l.U l.H A H
abbrev SlOk (K : PySem.W.Frag) (B : Addr → Prop) (H : Hp) (M : Mem) (O : Own) (i : Nat) (x : Option V) (s : Sl) : Prop := SlU K (Av B M O) (Mut M O) O H i x s
/-- a def's frame over data: its slots, what is wanted of an exception (its class, the memory) -/
structure Fr where
  sl : List Sl
  ex : Addr → Mem → Prop
/-- at the entry of a def (or of a loop): the heap, what might change; what is wanted of an exception there -/
structure En where
  B : Addr → Prop
  H : Hp
  U : Addr → Prop
  X : Addr → Mem → Prop
  W : Addr → Hp → Prop
/-- an exception of an own class without fields -/
def xk (W : Addr → Hp → Prop) : XK := fun cls d H => ∃ C, cls = .ref C ∧ d = none ∧ W C H
structure Rep (X : Cx) (B : Addr → Prop) (E : En) (σ : L2.St) (H : Hp) (r : Fr) (M : Mem) (O : Own) : Prop where
  m : MemOk X.K B H M O
  len : σ.length = r.sl.length
  sl : ∀ i s, r.sl[i]? = some s → SlOk X.K B H M O i ((σ[i]?).getD none) s
  ent : Step E.U E.H (Mut M O) H
  sub : ∀ b, E.B b → B b
  exc : ∀ C M' H' O', MemOk X.K E.B H' M' O' → Step E.U E.H (Mut M' O') H' → E.X C M' → E.W C H'
  lk : Takes X (fun cls d _ H => xk E.W cls d H)
  xe : r.ex = E.X
theorem Rep.ps {X : Cx} {B : Addr → Prop} {E : En} {σ : L2.St} {H : Hp} {r : Fr} {M : Mem} {O : Own} (R : Rep X B E σ H r M O) : Passes (L2.CX X.prog X.w) X (xk E.W) := passes_call R.lk fun _ _ _ _ h => h
end DL
set_option Elab.async false
set_option linter.all false
set_option maxRecDepth 100000
namespace DL
open PySem PySem.Spec PyProof.Rows L2
section
variable {X : Cx} {K : PySem.W.Frag} {B : Addr → Prop} {E : En} {σ : L2.St} {H H' H'' : Hp} {r : Fr} {M M' M'' : Mem} {O O' O'' : Own} {p : Bool}
theorem step_same {A A' : Addr → Prop} (h : Same H H') (hA : ∀ a, ¬ A a → ¬ A' a) : Step A H A' H' := fun a o e n => ⟨h a o e, hA a n⟩
theorem OOk.same {A : Addr → Prop} (h : Same H H') {a : Addr} : ∀ {m : OM}, OOk K A H a m → OOk K A H' a m
  | .lst _, ⟨vs, e, l⟩ => ⟨vs, h _ _ e, l.step (step_same h fun _ n => n)⟩
  | .dic _, ⟨vs, e, l⟩ => ⟨vs, h _ _ e, l.step (step_same h fun _ n => n)⟩
theorem FlsOk.same {A : Addr → Prop} (h : Same H H') {a : Addr} : ∀ {vs : List (Str × V)} {fs : List (Str × Fl)}, FlsOk K A H O a vs fs → FlsOk K A H' O a vs fs
  | _, _, .nil => .nil
  | _, _, .v i t => .v (i.step (step_same h fun _ n => n)) (FlsOk.same h t)
  | _, _, .o e i t => .o e (i.same h) (FlsOk.same h t)
theorem MOk.same {A : Addr → Prop} (h : Same H H') {a : Addr} : ∀ {m : MO}, MOk K A H O a m → MOk K A H' O a m
  | .om m, x => OOk.same h x
  | .ins _ _, ⟨dx, vs, e, x⟩ => ⟨dx, vs, h _ _ e, x.same h⟩
  | .st, ⟨kds, s, x⟩ => ⟨kds, s, OOk.same h x⟩
  | .ho _, e => h _ _ e
  | .tab _, ⟨ps, e, t, q⟩ => ⟨ps, h _ _ e, t, fun pos cv z => let ⟨c, e1, e2, n⟩ := q pos cv z; ⟨c, e1, h _ _ e2, n⟩⟩
theorem MemOk.same (h : Same H H') (x : MemOk K B H M O) : MemOk K B H' M O where
  mem := fun a mo e => let ⟨h1, h2, h3⟩ := x.mem a mo e; ⟨h1, h2, h3.same h⟩
  own := fun a w e => let ⟨h1, h2⟩ := x.own a w e; ⟨h1, fun z => h2 (h.free z)⟩
  btr := fun a e z => x.btr a e (h.free z)
theorem SlOk.same (h : Same H H') {i : Nat} {x : Option V} : ∀ {s : Sl}, SlOk K B H M O i x s → SlOk K B H' M O i x s
  | .n, _ => trivial
  | .v d, ⟨v, e, q⟩ => ⟨v, e, q.step (step_same h fun _ n => n)⟩
  | .o m, ⟨a, e, o, q⟩ => ⟨a, e, o, q.same h⟩
  | .b k ds, ⟨a, vs, e, q, l⟩ => ⟨a, vs, e, q.step (step_same h fun _ n => n), l.step (step_same h fun _ n => n)⟩
  | .s ns, ⟨a, e, q⟩ => ⟨a, e, q.step (step_same h fun _ n => n)⟩
  | .f l, ⟨e, q⟩ => ⟨e, q.trans (step_same h fun _ n => n)⟩
theorem Rep.same (h : Same H H') (x : Rep X B E σ H r M O) : Rep X B E σ H' r M O where
  m := x.m.same h
  len := x.len
  sl := fun i s e => (x.sl i s e).same h
  ent := x.ent.trans (step_same h fun _ n => n)
  sub := x.sub
  exc := x.exc
  lk := x.lk
  xe := x.xe
/-- how the state has gone on; p: nothing that stood has changed -/
def Rl (p : Bool) (M : Mem) (O : Own) (H : Hp) (M' : Mem) (O' : Own) (H' : Hp) : Prop := (p = true → M' = M ∧ O' = O ∧ Same H H') ∧ Step (Mut M O) H (Mut M' O') H'
theorem Rl.refl : Rl p M O H M O H := ⟨fun _ => ⟨rfl, rfl, Same.refl _⟩, Step.refl _ _⟩
theorem Rl.of_same (h : Same H H') : Rl p M O H M O H' := ⟨fun _ => ⟨rfl, rfl, h⟩, step_same h fun _ n => n⟩
theorem Rl.trans (x : Rl p M O H M' O' H') (y : Rl p M' O' H' M'' O'' H'') : Rl p M O H M'' O'' H'' :=
  ⟨fun e => by
    obtain ⟨a1, a2, a3⟩ := x.1 e
    obtain ⟨b1, b2, b3⟩ := y.1 e
    exact ⟨b1.trans a1, b2.trans a2, a3.trans b3⟩, x.2.trans y.2⟩
theorem Rl.weak (x : Rl true M O H M' O' H') : Rl p M O H M' O' H' := ⟨fun _ => x.1 rfl, x.2⟩
theorem Rl.loose (x : Rl p M O H M' O' H') : Rl false M O H M' O' H' := ⟨fun e => (nomatch e), x.2⟩
theorem Rl.avs (x : Rl p M O H M' O' H') : Step (Av B M O) H (Av B M' O') H' := fun a o e n =>
  have n1 : ¬ B a := fun z => n (.inl z)
  have ⟨h1, h2⟩ := x.2 a o e fun z => n (.inr z)
  ⟨h1, fun z => z.elim n1 h2⟩
/-- shallow: the list or tuple itself may be one that changes later -/
def Is1 (K : PySem.W.Frag) (A : Addr → Prop) (H : Hp) (v : V) : D → Prop
  | .tup ds => ∃ a vs, v = .ref a ∧ TupK K H a vs ∧ IsL K A H vs ds
  | .lst ds => ∃ a vs, v = .ref a ∧ H a = some (.lst vs) ∧ IsL K A H vs ds
  | .dic kds => ∃ a kvs, v = .ref a ∧ Rd H a (.dK kvs) ∧ IsK K A H kvs kds
  | d => Is K A H v d
theorem Is.one {A : Addr → Prop} : ∀ {v : V} {d : D}, Is K A H v d → Is1 K A H v d
  | _, _, .non => .non
  | _, _, .bl b => .bl b
  | _, _, .int b => .int b
  | _, _, .str b => .str b
  | _, _, .ty b => .ty b
  | _, _, .ref b => .ref b
  | _, _, .tup h l => ⟨_, _, rfl, h.tk, l⟩
  | _, _, .lst h l => ⟨_, _, rfl, h.2, l⟩
  | _, _, .dic h l => ⟨_, _, rfl, .inr h.2, l⟩
theorem SqT.same {a : Addr} {vs : List V} (e : Same H H') (h : SqT K H a vs) : SqT K H' a vs := by
  rcases h with (h | ⟨o, h⟩) | h
  · exact .inl (.inl (e _ _ h))
  · exact .inl (.inr ⟨o, e _ _ h⟩)
  · exact .inr h
theorem Rd.same {a : Addr} {u : HO} (e : Same H H') (h : Rd H a u) : Rd H' a u := by
  rcases h with h | ⟨o, h⟩
  · exact .inl (e _ _ h)
  · exact .inr ⟨o, e _ _ h⟩
theorem TupK.same {a : Addr} {vs : List V} (e : Same H H') (h : TupK K H a vs) : TupK K H' a vs := by
  rcases h with ⟨o, d, h⟩ | h
  · exact .inl ⟨o, d, e _ _ h⟩
  · exact .inr h
theorem Is1.same {A : Addr → Prop} (e : Same H H') {v : V} : ∀ {d : D}, Is1 K A H v d → Is1 K A H' v d
  | .tup _, ⟨a, vs, h1, h2, h3⟩ => ⟨a, vs, h1, TupK.same e h2, h3.step (step_same e fun _ n => n)⟩
  | .lst _, ⟨a, vs, h1, h2, h3⟩ => ⟨a, vs, h1, e _ _ h2, h3.step (step_same e fun _ n => n)⟩
  | .dic _, ⟨a, vs, h1, h2, h3⟩ => ⟨a, vs, h1, Rd.same e h2, h3.step (step_same e fun _ n => n)⟩
  | .non, h => Is.step (step_same e fun _ n => n) h
  | .bl _, h => Is.step (step_same e fun _ n => n) h
  | .int _, h => Is.step (step_same e fun _ n => n) h
  | .str _, h => Is.step (step_same e fun _ n => n) h
  | .ty _, h => Is.step (step_same e fun _ n => n) h
  | .ref _, h => Is.step (step_same e fun _ n => n) h
def IsX (w : Bool) (K : PySem.W.Frag) (A : Addr → Prop) (H : Hp) (v : V) (d : D) : Prop := if w = true then Is K A H v d else Is1 K A H v d
theorem IsX.one {A : Addr → Prop} {w : Bool} {v : V} {d : D} (h : IsX w K A H v d) : Is1 K A H v d := by
  cases w with
  | true => exact Is.one h
  | false => exact h
/-- it is kept while the next one is reckoned -/
theorem IsX.next {w : Bool} {v : V} {d : D} (hw : (w || p) = true) (l : Rl p M O H M' O' H') (h : IsX w K (Av B M O) H v d) : IsX w K (Av B M' O') H' v d := by
  cases w with
  | true => exact Is.step l.avs h
  | false =>
    have hp : p = true := hw
    obtain ⟨e1, e2, e3⟩ := l.1 hp
    subst e1; subst e2
    exact Is1.same e3 h
end
abbrev GE := Fr → Mem → (D → Mem → Prop) → Prop
abbrev GT := Fr → Mem → (Bool → Mem → Prop) → Prop
def LE (w p : Bool) (X : Cx) (B : Addr → Prop) (E : En) (σ : L2.St) (r : Fr) (H : Hp) (M : Mem) (O : Own) (Q : VK) : D → Mem → Prop := fun d M' =>
  ∀ v H' O', Rep X B E σ H' r M' O' → Rl p M O H M' O' H' → IsX w X.K (Av B M' O') H' v d → Q v H'
def LT (p : Bool) (X : Cx) (B : Addr → Prop) (E : En) (σ : L2.St) (r : Fr) (H : Hp) (M : Mem) (O : Own) (Q : Bool → Hp → Prop) : Bool → Mem → Prop := fun b M' =>
  ∀ H' O', Rep X B E σ H' r M' O' → Rl p M O H M' O' H' → Q b H'
/-- w: the value is kept apart from what changes later; p: nothing that stood is changed -/
structure DE (w p : Bool) (X : Cx) (e : Expr) (g : GE) : Prop where
  run : PE X e (fun σ H Q => ∃ B E r M O, Rep X B E σ H r M O ∧ g r M (LE w p X B E σ r H M O Q))
  mono : ∀ r M Q Q', (∀ d M', Q d M' → Q' d M') → g r M Q → g r M Q'
structure DT (p : Bool) (X : Cx) (e : Expr) (g : GT) : Prop where
  run : PT X e (fun σ H Q => ∃ B E r M O, Rep X B E σ H r M O ∧ g r M (LT p X B E σ r H M O Q))
  mono : ∀ r M Q Q', (∀ d M', Q d M' → Q' d M') → g r M Q → g r M Q'
theorem peI {X : Cx} {e : Expr} {t t' : TE} (h : PE X e t) (i : ∀ σ H Q, t' σ H Q → t σ H Q) : PE X e t' := ⟨fun pins s σ H Q I q => h.run pins s σ H Q I (i σ H Q q)⟩
theorem ptI {X : Cx} {e : Expr} {t t' : TT} (h : PT X e t) (i : ∀ σ H Q, t' σ H Q → t σ H Q) : PT X e t' := ⟨fun pins s σ H Q I q => h.run pins s σ H Q I (i σ H Q q)⟩
theorem pwI {X : Cx} {e : Expr} {t t' : TT} (h : PW X e t) (i : ∀ σ H Q, t' σ H Q → t σ H Q) : PW X e t' := ⟨fun wh pins s σ H Q I q => h.run wh pins s σ H Q I (i σ H Q q)⟩
section
variable {X : Cx} {w w1 w2 p : Bool} {a b c e : Expr} {g ga gb gc : GE} {B : Addr → Prop} {E : En} {σ : L2.St} {H : Hp} {r : Fr} {M : Mem} {O : Own} {pos : Pos}
theorem DE.on (ha : DE w p X e g) (R : Rep X B E σ H r M O) {k : D → Mem → Prop} (h : g r M k) {Q : VK}
    (hk : ∀ d M1 v H1 O1, k d M1 → Rep X B E σ H1 r M1 O1 → Rl p M O H M1 O1 H1 → IsX w X.K (Av B M1 O1) H1 v d → Q v H1) :
    ∃ B E r M O, Rep X B E σ H r M O ∧ g r M (LE w p X B E σ r H M O Q) :=
  ⟨B, E, r, M, O, R, ha.mono r M _ _ (fun d M1 h1 v H1 O1 R1 l1 i1 => hk d M1 v H1 O1 h1 R1 l1 i1) h⟩
theorem DT.on {gt : GT} (ha : DT p X e gt) (R : Rep X B E σ H r M O) {k : Bool → Mem → Prop} (h : gt r M k) {Q : Bool → Hp → Prop}
    (hk : ∀ d M1 H1 O1, k d M1 → Rep X B E σ H1 r M1 O1 → Rl p M O H M1 O1 H1 → Q d H1) :
    ∃ B E r M O, Rep X B E σ H r M O ∧ gt r M (LT p X B E σ r H M O Q) :=
  ⟨B, E, r, M, O, R, ha.mono r M _ _ (fun d M1 h1 H1 O1 R1 l1 => hk d M1 H1 O1 h1 R1 l1) h⟩
/-- a pure one where any is asked -/
theorem DE.up (h : DE w true X e g) : DE w p X e g :=
  ⟨peI h.run fun σ H Q ⟨B, E, r, M, O, R, q⟩ => h.on R q fun d M1 v H1 O1 k R1 l i => k v H1 O1 R1 l.weak i, h.mono⟩
theorem DT.up {gt : GT} (h : DT true X e gt) : DT p X e gt :=
  ⟨ptI h.run fun σ H Q ⟨B, E, r, M, O, R, q⟩ => h.on R q fun d M1 H1 O1 k R1 l => k H1 O1 R1 l.weak, h.mono⟩
def gC (d : D) : GE := fun _ M Q => Q d M
theorem de_int {i j} : DE true p X (.Constant (.int i) j pos) (gC (.int i)) :=
  ⟨peI pe_int fun σ H Q ⟨B, E, r, M, O, R, q⟩ => q _ H O R Rl.refl (.int i), fun _ _ _ _ h q => h _ _ q⟩
theorem de_bl {i j} : DE true p X (.Constant (.bool i) j pos) (gC (.bl i)) :=
  ⟨peI pe_bl fun σ H Q ⟨B, E, r, M, O, R, q⟩ => q _ H O R Rl.refl (.bl i), fun _ _ _ _ h q => h _ _ q⟩
theorem de_non {j} : DE true p X (.Constant .none j pos) (gC .non) :=
  ⟨peI pe_non fun σ H Q ⟨B, E, r, M, O, R, q⟩ => q _ H O R Rl.refl .non, fun _ _ _ _ h q => h _ _ q⟩
theorem de_str {x j} : DE true p X (.Constant (.str x) j pos) (gC (.str x)) :=
  ⟨peI pe_str fun σ H Q ⟨B, E, r, M, O, R, q⟩ => q _ H O R Rl.refl (.str x), fun _ _ _ _ h q => h _ _ q⟩
theorem Rep.slot {i : Nat} {s : Sl} (R : Rep X B E σ H r M O) (h : r.sl[i]? = some s) : ∃ x, σ[i]? = some x ∧ SlOk X.K B H M O i x s := by
  have hi : i < r.sl.length := by
    obtain ⟨h1, _⟩ := List.getElem?_eq_some_iff.mp h
    exact h1
  have hs : i < σ.length := by rw [R.len]; exact hi
  refine ⟨σ[i], List.getElem?_eq_getElem hs, ?_⟩
  have q := R.sl i s h
  rw [List.getElem?_eq_getElem hs] at q
  exact q
/-- a name's value -/
def gV (i : Nat) : GE := fun r M Q => match r.sl[i]? with
  | some (.v d) => Q d M
  | _ => False
theorem de_var (i : Nat) {x : Str} (hN : X.N[i]? = some x := by rfl) (hv : Vis X.env.scope x := by first | exact Or.inl rfl | exact Or.inr (Or.inl rfl) | exact Or.inr (Or.inr rfl)) (hd : (x == ("__debug__" : Str)) = false := by decide)
    (hcd : (x == ("__classdict__" : Str)) = false := by decide) : DE true p X (.Name x pos) (gV i) := by
  refine ⟨peI (pe_var hN hv hd hcd) fun σ H Q ⟨B, E, r, M, O, R, q⟩ => ?_, fun r M Q Q' h q => ?_⟩
  · unfold gV at q
    split at q
    · rename_i d e
      obtain ⟨x, e1, v, e2, i1⟩ := R.slot e
      subst e2
      exact ⟨v, e1, q v H O R Rl.refl i1⟩
    · exact q.elim
  · unfold gV at q ⊢
    split at q
    · exact h _ _ q
    · exact q.elim
/-- .. shallow: an own list, a lent one too -/
def gVw (i : Nat) : GE := fun r M Q => match r.sl[i]? with
  | some (.v d) => Q d M
  | some (.o (.lst ds)) => Q (.lst ds) M
  | some (.o (.dic ds)) => Q (.dic ds) M
  | some (.b true ds) => Q (.tup ds) M
  | some (.b false ds) => Q (.lst ds) M
  | _ => False
theorem de_varW (i : Nat) {x : Str} (hN : X.N[i]? = some x := by rfl) (hv : Vis X.env.scope x := by first | exact Or.inl rfl | exact Or.inr (Or.inl rfl) | exact Or.inr (Or.inr rfl)) (hd : (x == ("__debug__" : Str)) = false := by decide)
    (hcd : (x == ("__classdict__" : Str)) = false := by decide) : DE false p X (.Name x pos) (gVw i) := by
  refine ⟨peI (pe_var hN hv hd hcd) fun σ H Q ⟨B, E, r, M, O, R, q⟩ => ?_, fun r M Q Q' h q => ?_⟩
  · unfold gVw at q
    split at q
    · rename_i d e
      obtain ⟨x, e1, v, e2, i1⟩ := R.slot e
      subst e2
      exact ⟨v, e1, q v H O R Rl.refl i1.one⟩
    · rename_i ds e
      obtain ⟨x, e1, v, e2, i1, vs, i2, i3⟩ := R.slot e
      subst e2
      exact ⟨_, e1, q _ H O R Rl.refl ⟨_, vs, rfl, i2, i3⟩⟩
    · rename_i ds e
      obtain ⟨x, e1, v, e2, i1, vs, i2, i3⟩ := R.slot e
      subst e2
      exact ⟨_, e1, q _ H O R Rl.refl ⟨_, vs, rfl, .inl i2, i3⟩⟩
    · rename_i ds e
      obtain ⟨x, e1, v, vs, e2, i1, i2⟩ := R.slot e
      subst e2
      exact ⟨_, e1, q _ H O R Rl.refl ⟨_, vs, rfl, TupAt.tk i1, i2⟩⟩
    · rename_i ds e
      obtain ⟨x, e1, v, vs, e2, i1, i2⟩ := R.slot e
      subst e2
      exact ⟨_, e1, q _ H O R Rl.refl ⟨_, vs, rfl, i1.2, i2⟩⟩
    · exact q.elim
  · unfold gVw at q ⊢
    split at q
    all_goals first | exact h _ _ q | exact q.elim
/-- a module's constant that is a value of the written part, by what is known of it -/
theorem de_glob {x : Str} {v : V} {u : Value} {d : D} (hg : Gl X x) (hm : X.mg x = some u) (hr : RelV v u) (hi : ∀ A H, Is X.K A H v d) (hd : (x == ("__debug__" : Str)) = false := by decide) : DE true p X (.Name x pos) (gC d) :=
  ⟨peI (pe_glob hg hm hr hd) fun σ H Q ⟨B, E, r, M, O, R, q⟩ => q _ H O R Rl.refl (hi _ _), fun _ _ _ _ h q => h _ _ q⟩
end
end DL
set_option Elab.async false
set_option linter.all false
set_option maxRecDepth 100000
namespace DL
open PySem PySem.Spec PyProof.Rows L2
section
variable {X : Cx} {K : PySem.W.Frag} {B : Addr → Prop} {E : En} {σ : L2.St} {H H' : Hp} {r : Fr} {M : Mem} {O : Own} {p w : Bool} {Q : VK}
theorem OOk.there {A : Addr → Prop} {a : Addr} : ∀ {m : OM}, OOk K A H a m → H a ≠ none
  | .lst _, ⟨_, e, _⟩ => fun z => by rw [z] at e; cases e
  | .dic _, ⟨_, e, _⟩ => fun z => by rw [z] at e; cases e
theorem MOk.there {A : Addr → Prop} {a : Addr} : ∀ {m : MO}, MOk K A H O a m → H a ≠ none
  | .om _, x => OOk.there x
  | .ins _ _, ⟨_, _, e, _⟩ => fun z => by rw [z] at e; cases e
  | .st, ⟨_, _, x⟩ => OOk.there x
  | .ho _, e => fun z => by
    have e : H a = some _ := e
    rw [z] at e; cases e
  | .tab _, ⟨_, e, _⟩ => fun z => by rw [z] at e; cases e
theorem MemOk.fresh (x : MemOk K B H M O) {a : Addr} (n : H a = none) : ¬ Av B M O a := fun z => by
  rcases z with z | z | z
  · exact x.btr a z n
  · cases e : M a with
    | none => exact z e
    | some mo => exact MOk.there (x.mem a mo e).2.2 n
  · cases e : O a with
    | none => exact z e
    | some o => exact (x.own a o e).2 n
theorem same_upd {a : Addr} {o : HO} (n : H a = none) : Same H (upd H a o) := fun b u e => by
  rw [upd_ne (ne_of_none e n)]; exact e
theorem Is.up {A : Addr → Prop} (h : Same H H') {v : V} {d : D} (x : Is K A H v d) : Is K A H' v d := x.step (step_same h fun _ n => n)
theorem IsL.up {A : Addr → Prop} (h : Same H H') {v : List V} {d : List D} (x : IsL K A H v d) : IsL K A H' v d := x.step (step_same h fun _ n => n)
theorem IsX.of {A : Addr → Prop} {v : V} {d : D} (h : Is K A H v d) : IsX w K A H v d := by
  cases w with
  | true => exact h
  | false => exact h.one
theorem fin_tup (R : Rep X B E σ H r M O) {vs : List V} {ds : List D} (l : IsL X.K (Av B M O) H vs ds) (q : LE w p X B E σ r H M O Q (.tup ds) M) : Fz Q H vs := fun a o hd n =>
  q _ _ O (R.same (same_upd n)) (Rl.of_same (same_upd n)) (IsX.of (.tup (.inl ⟨R.m.fresh n, o, hd, upd_same⟩) (l.up (same_upd n))))
theorem fin_lst (R : Rep X B E σ H r M O) {vs : List V} {ds : List D} (l : IsL X.K (Av B M O) H vs ds) (q : LE w p X B E σ r H M O Q (.lst ds) M) : ∀ a, H a = none → Q (.ref a) (upd H a (.lst vs)) := fun a n =>
  q _ _ O (R.same (same_upd n)) (Rl.of_same (same_upd n)) (IsX.of (.lst ⟨R.m.fresh n, upd_same⟩ (l.up (same_upd n))))
theorem fin_v (R : Rep X B E σ H r M O) {v : V} {d : D} (l : Is X.K (Av B M O) H v d) (q : LE w p X B E σ r H M O Q d M) : Q v H := q v H O R Rl.refl (IsX.of l)
theorem LE.go {M' : Mem} {O' : Own} {d : D} {M2 : Mem} (l : Rl p M O H M' O' H') (q : LE w p X B E σ r H M O Q d M2) : LE w p X B E σ r H' M' O' Q d M2 := fun v H2 O2 R2 l2 i2 => q v H2 O2 R2 (l.trans l2) i2
theorem LT.go {M' : Mem} {O' : Own} {d : Bool} {M2 : Mem} {Q : Bool → Hp → Prop} (l : Rl p M O H M' O' H') (q : LT p X B E σ r H M O Q d M2) : LT p X B E σ r H' M' O' Q d M2 := fun H2 O2 R2 l2 => q H2 O2 R2 (l.trans l2)
end
abbrev GO := D → D → Mem → (D → Mem → Prop) → Prop
abbrev GU := D → Mem → (D → Mem → Prop) → Prop
/-- a two-place operation over data -/
structure OpD (X : Cx) (f : Value → Value → Sem Value) (go : GO) : Prop where
  ex : ∃ rr : R2, OpR X f rr ∧ ∀ B E σ H r M O x y d e Q, Rep X B E σ H r M O → Is1 X.K (Av B M O) H x d → Is1 X.K (Av B M O) H y e → go d e M (LE true true X B E σ r H M O Q) → rr x y H Q
  mono : ∀ d e M Q Q', (∀ d M', Q d M' → Q' d M') → go d e M Q → go d e M Q'
/-- .. a one-place one -/
structure UnD (X : Cx) (f : Value → Sem Value) (go : GU) : Prop where
  ex : ∃ rr : V → Hp → VK → Prop, UnR X f rr ∧ ∀ B E σ H r M O x d Q, Rep X B E σ H r M O → Is1 X.K (Av B M O) H x d → go d M (LE true true X B E σ r H M O Q) → rr x H Q
  mono : ∀ d M Q Q', (∀ d M', Q d M' → Q' d M') → go d M Q → go d M Q'
def g2 (go : GO) (ga gb : GE) : GE := fun r M Q => ga r M fun d M1 => gb r M1 fun e M2 => go d e M2 Q
def g1 (go : GU) (ga : GE) : GE := fun r M Q => ga r M fun d M1 => go d M1 Q
def gB (g : GE) : GT := fun r M Q => g r M fun d M' => match d with
  | .bl b => Q b M'
  | _ => False
section
variable {X : Cx} {w w1 w2 p : Bool} {a b c e : Expr} {g ga gb gc : GE} {B : Addr → Prop} {E : En} {σ : L2.St} {H : Hp} {r : Fr} {M : Mem} {O : Own} {pos : Pos} {go : GO} {gu : GU}
theorem g2_mono (ha : ∀ r M Q Q', (∀ d M', Q d M' → Q' d M') → ga r M Q → ga r M Q') (hb : ∀ r M Q Q', (∀ d M', Q d M' → Q' d M') → gb r M Q → gb r M Q') (ho : ∀ d e M Q Q', (∀ d M', Q d M' → Q' d M') → go d e M Q → go d e M Q') :
    ∀ r M Q Q', (∀ d M', Q d M' → Q' d M') → g2 go ga gb r M Q → g2 go ga gb r M Q' := fun r M Q Q' h q => ha r M _ _ (fun d M1 q1 => hb r M1 _ _ (fun e M2 q2 => ho d e M2 _ _ h q2) q1) q
theorem de_op {op : Operator} (ho : OpD X (binaryOp op) go) (ha : DE w1 p X a ga) (hb : DE w2 p X b gb) (hw : (w1 || p) = true := by first | rfl | exact Bool.or_true _) : DE true p X (.BinOp a op b pos) (g2 go ga gb) := by
  obtain ⟨⟨rr, h1, h2⟩, hm⟩ := ho
  refine ⟨peI (pe_op h1 ha.run hb.run) fun σ H Q ⟨B, E, r, M, O, R, q⟩ => ?_, g2_mono ha.mono hb.mono hm⟩
  refine ha.on R q fun d M1 v H1 O1 k1 R1 l1 i1 => ?_
  refine hb.on R1 k1 fun e M2 u H2 O2 k2 R2 l2 i2 => ?_
  exact h2 B E σ H2 r M2 O2 v u d e Q R2 (IsX.one (IsX.next hw l2 i1)) i2.one (hm _ _ _ _ _ (fun z M' q3 v3 H3 O3 R3 l3 i3 => q3 v3 H3 O3 R3 ((l1.trans l2).trans l3.weak) i3) k2)
theorem de_un {op : UnaryOp} (ho : UnD X (unaryOp op) gu) (ha : DE w p X a ga) : DE true p X (.UnaryOp op a pos) (g1 gu ga) := by
  obtain ⟨⟨rr, h1, h2⟩, hm⟩ := ho
  refine ⟨peI (pe_un h1 ha.run) fun σ H Q ⟨B, E, r, M, O, R, q⟩ => ?_, fun r M Q Q' h q => ha.mono r M _ _ (fun d M1 q1 => hm d M1 _ _ h q1) q⟩
  refine ha.on R q fun d M1 v H1 O1 k1 R1 l1 i1 => ?_
  exact h2 B E σ H1 r M1 O1 v d Q R1 i1.one (hm _ _ _ _ (fun z M' q3 v3 H3 O3 R3 l3 i3 => q3 v3 H3 O3 R3 (l1.trans l3.weak) i3) k1)
theorem de_cmp {op : CmpOp} (ho : OpD X (compareOp op) go) (ha : DE w1 p X a ga) (hb : DE w2 p X b gb) (hm : behindInMarks op b = false := by first | exact nomark _ | with_unfolding_all rfl) (hw : (w1 || p) = true := by first | rfl | exact Bool.or_true _) :
    DE true p X (.Compare a [op] [b] pos) (g2 go ga gb) := by
  obtain ⟨⟨rr, h1, h2⟩, hmo⟩ := ho
  refine ⟨peI (pe_cmpR h1 ha.run hb.run hm) fun σ H Q ⟨B, E, r, M, O, R, q⟩ => ?_, g2_mono ha.mono hb.mono hmo⟩
  refine ha.on R q fun d M1 v H1 O1 k1 R1 l1 i1 => ?_
  refine hb.on R1 k1 fun e M2 u H2 O2 k2 R2 l2 i2 => ?_
  exact h2 B E σ H2 r M2 O2 v u d e Q R2 (IsX.one (IsX.next hw l2 i1)) i2.one (hmo _ _ _ _ _ (fun z M' q3 v3 H3 O3 R3 l3 i3 => q3 v3 H3 O3 R3 ((l1.trans l2).trans l3.weak) i3) k2)
theorem gB_mono (h : ∀ r M Q Q', (∀ d M', Q d M' → Q' d M') → g r M Q → g r M Q') : ∀ r M Q Q', (∀ d M', Q d M' → Q' d M') → gB g r M Q → gB g r M Q' := fun r M Q Q' hh q => h r M _ _ (fun d M1 q1 => by
  cases d with
  | bl b => exact hh _ _ q1
  | _ => exact q1) q
theorem dt_cmp {op : CmpOp} (ho : OpD X (compareOp op) go) (ha : DE w1 p X a ga) (hb : DE w2 p X b gb) (hm : behindInMarks op b = false := by first | exact nomark _ | with_unfolding_all rfl) (hw : (w1 || p) = true := by first | rfl | exact Bool.or_true _) :
    DT p X (.Compare a [op] [b] pos) (gB (g2 go ga gb)) := by
  obtain ⟨⟨rr, h1, h2⟩, hmo⟩ := ho
  refine ⟨ptI (pt_cmpR h1 ha.run hb.run hm) fun σ H Q ⟨B, E, r, M, O, R, q⟩ => ?_, gB_mono (g2_mono ha.mono hb.mono hmo)⟩
  refine ha.on R q fun d M1 v H1 O1 k1 R1 l1 i1 => ?_
  refine hb.on R1 k1 fun e M2 u H2 O2 k2 R2 l2 i2 => ?_
  refine h2 B E σ H2 r M2 O2 v u d e _ R2 (IsX.one (IsX.next hw l2 i1)) i2.one (hmo _ _ _ _ _ (fun z M' q3 v3 H3 O3 R3 l3 i3 => ?_) k2)
  have i3 : Is X.K (Av B M' O3) H3 v3 z := i3
  cases z with
  | bl b =>
    cases i3
    exact ⟨b, rfl, q3 H3 O3 R3 ((l1.trans l2).trans l3.weak)⟩
  | _ => exact q3.elim
def gAnd (t u : GT) : GT := fun r M Q => t r M fun c M1 => if c = true then u r M1 Q else Q false M1
def gOr (t u : GT) : GT := fun r M Q => t r M fun c M1 => if c = true then Q true M1 else u r M1 Q
def gNot (t : GT) : GT := fun r M Q => t r M fun c M1 => Q (!c) M1
variable {tA tB' gt gu' : GT} {rest : List Expr}
structure DW (p : Bool) (X : Cx) (e : Expr) (g : GT) : Prop where
  run : PW X e (fun σ H Q => ∃ B E r M O, Rep X B E σ H r M O ∧ g r M (LT p X B E σ r H M O Q))
  mono : ∀ r M Q Q', (∀ d M', Q d M' → Q' d M') → g r M Q → g r M Q'
theorem DW.dt (h : DW p X e gt) : DT p X e gt := ⟨PW.pt h.run, h.mono⟩
theorem dw_and1 (ha : DT p X a tA) : DW p X (.BoolOp .And [a] pos) tA := ⟨pw_and1 ha.run, ha.mono⟩
theorem dw_or1 (ha : DT p X a tA) : DW p X (.BoolOp .Or [a] pos) tA := ⟨pw_or1 ha.run, ha.mono⟩
theorem DW.on (ha : DW p X e gt) (R : Rep X B E σ H r M O) {k : Bool → Mem → Prop} (h : gt r M k) {Q : Bool → Hp → Prop}
    (hk : ∀ d M1 H1 O1, k d M1 → Rep X B E σ H1 r M1 O1 → Rl p M O H M1 O1 H1 → Q d H1) :
    ∃ B E r M O, Rep X B E σ H r M O ∧ gt r M (LT p X B E σ r H M O Q) :=
  ⟨B, E, r, M, O, R, ha.mono r M _ _ (fun d M1 h1 H1 O1 R1 l1 => hk d M1 H1 O1 h1 R1 l1) h⟩
theorem dw_and (ha : DT p X a tA) (hb : DW p X (.BoolOp .And (b :: rest) pos) tB') : DW p X (.BoolOp .And (a :: b :: rest) pos) (gAnd tA tB') := by
  refine ⟨pwI (pw_and ha.run hb.run) fun σ H Q ⟨B, E, r, M, O, R, q⟩ => ?_, fun r M Q Q' h q => ha.mono r M _ _ (fun c M1 q1 => ?_) q⟩
  · refine ha.on R q fun c M1 H1 O1 k1 R1 l1 => ?_
    cases c with
    | true =>
      rw [if_pos rfl] at k1 ⊢
      exact hb.on R1 k1 fun d M2 H2 O2 k2 R2 l2 => k2 H2 O2 R2 (l1.trans l2)
    | false =>
      rw [if_neg Bool.false_ne_true] at k1 ⊢
      exact k1 H1 O1 R1 l1
  · cases c with
    | true =>
      rw [if_pos rfl] at q1 ⊢
      exact hb.mono r M1 _ _ h q1
    | false =>
      rw [if_neg Bool.false_ne_true] at q1 ⊢
      exact h _ _ q1
theorem dw_or (ha : DT p X a tA) (hb : DW p X (.BoolOp .Or (b :: rest) pos) tB') : DW p X (.BoolOp .Or (a :: b :: rest) pos) (gOr tA tB') := by
  refine ⟨pwI (pw_or ha.run hb.run) fun σ H Q ⟨B, E, r, M, O, R, q⟩ => ?_, fun r M Q Q' h q => ha.mono r M _ _ (fun c M1 q1 => ?_) q⟩
  · refine ha.on R q fun c M1 H1 O1 k1 R1 l1 => ?_
    cases c with
    | false =>
      rw [if_neg Bool.false_ne_true] at k1 ⊢
      exact hb.on R1 k1 fun d M2 H2 O2 k2 R2 l2 => k2 H2 O2 R2 (l1.trans l2)
    | true =>
      rw [if_pos rfl] at k1 ⊢
      exact k1 H1 O1 R1 l1
  · cases c with
    | false =>
      rw [if_neg Bool.false_ne_true] at q1 ⊢
      exact hb.mono r M1 _ _ h q1
    | true =>
      rw [if_pos rfl] at q1 ⊢
      exact h _ _ q1
theorem dt_not (ha : DT p X a tA) : DT p X (.UnaryOp .Not a pos) (gNot tA) := by
  refine ⟨ptI (pt_not ha.run) fun σ H Q ⟨B, E, r, M, O, R, q⟩ => ?_, fun r M Q Q' h q => ha.mono r M _ _ (fun c M1 q1 => h _ _ q1) q⟩
  exact ha.on R q fun c M1 H1 O1 k1 R1 l1 => k1 H1 O1 R1 l1
/-- .. as values -/
def gAndV (ga gb : GE) : GE := fun r M Q => ga r M fun d M1 => match d with
  | .bl true => gb r M1 Q
  | .bl false => Q (.bl false) M1
  | _ => False
def gOrV (ga gb : GE) : GE := fun r M Q => ga r M fun d M1 => match d with
  | .bl true => Q (.bl true) M1
  | .bl false => gb r M1 Q
  | _ => False
def gNotV (ga : GE) : GE := fun r M Q => ga r M fun d M1 => match d with
  | .bl c => Q (.bl (!c)) M1
  | _ => False
theorem de_one {op} (h : DE w p X a ga) : DE w p X (.BoolOp op [a] pos) ga := ⟨pe_one h.run, h.mono⟩
theorem de_and (ha : DE true p X a ga) (hb : DE true p X (.BoolOp .And (b :: rest) pos) gb) : DE true p X (.BoolOp .And (a :: b :: rest) pos) (gAndV ga gb) := by
  refine ⟨peI (pe_and ha.run hb.run) fun σ H Q ⟨B, E, r, M, O, R, q⟩ => ?_, fun r M Q Q' h q => ha.mono r M _ _ (fun d M1 q1 => ?_) q⟩
  · refine ha.on R q fun d M1 v H1 O1 k1 R1 l1 i1 => ?_
    have i1 : Is X.K (Av B M1 O1) H1 v d := i1
    split at k1
    · cases i1
      refine ⟨true, rfl, ?_⟩
      rw [if_pos rfl]
      exact hb.on R1 k1 fun d M2 u H2 O2 k2 R2 l2 i2 => k2 u H2 O2 R2 (l1.trans l2) i2
    · cases i1
      refine ⟨false, rfl, ?_⟩
      rw [if_neg Bool.false_ne_true]
      exact k1 _ H1 O1 R1 l1 (Is.bl _)
    · exact k1.elim
  · split at q1
    · exact hb.mono r M1 _ _ h q1
    · exact h _ _ q1
    · exact q1.elim
theorem de_or (ha : DE true p X a ga) (hb : DE true p X (.BoolOp .Or (b :: rest) pos) gb) : DE true p X (.BoolOp .Or (a :: b :: rest) pos) (gOrV ga gb) := by
  refine ⟨peI (pe_or ha.run hb.run) fun σ H Q ⟨B, E, r, M, O, R, q⟩ => ?_, fun r M Q Q' h q => ha.mono r M _ _ (fun d M1 q1 => ?_) q⟩
  · refine ha.on R q fun d M1 v H1 O1 k1 R1 l1 i1 => ?_
    have i1 : Is X.K (Av B M1 O1) H1 v d := i1
    split at k1
    · cases i1
      refine ⟨true, rfl, ?_⟩
      rw [if_pos rfl]
      exact k1 _ H1 O1 R1 l1 (Is.bl _)
    · cases i1
      refine ⟨false, rfl, ?_⟩
      rw [if_neg Bool.false_ne_true]
      exact hb.on R1 k1 fun d M2 u H2 O2 k2 R2 l2 i2 => k2 u H2 O2 R2 (l1.trans l2) i2
    · exact k1.elim
  · split at q1
    · exact h _ _ q1
    · exact hb.mono r M1 _ _ h q1
    · exact q1.elim
theorem de_not (ha : DE true p X a ga) : DE true p X (.UnaryOp .Not a pos) (gNotV ga) := by
  refine ⟨peI (pe_not ha.run) fun σ H Q ⟨B, E, r, M, O, R, q⟩ => ?_, fun r M Q Q' h q => ha.mono r M _ _ (fun d M1 q1 => ?_) q⟩
  · refine ha.on R q fun d M1 v H1 O1 k1 R1 l1 i1 => ?_
    have i1 : Is X.K (Av B M1 O1) H1 v d := i1
    cases d with
    | bl c =>
      cases i1
      exact ⟨c, rfl, k1 _ H1 O1 R1 l1 (Is.bl _)⟩
    | _ => exact k1.elim
  · cases d with
    | bl c => exact h _ _ q1
    | _ => exact q1.elim
def gIf (t : GT) (ga gb : GE) : GE := fun r M Q => t r M fun c M1 => if c = true then ga r M1 Q else gb r M1 Q
end
def valD (kds : List (Key × D)) (k : Key) : Option D := (kds.find? fun kv => decide (kv.1 = k)).map (·.2)
def putD (kds : List (Key × D)) (k : Key) (d : D) : List (Key × D) :=
  if (kds.any fun kv => decide (kv.1 = k)) = true then kds.map (fun kv => if kv.1 = k then (kv.1, d) else kv) else kds ++ [(k, d)]
def mergeD (kds more : List (Key × D)) : List (Key × D) := more.foldl (fun acc kv => putD acc kv.1 kv.2) kds
def keyD : D → Option Key
  | .int i => some (.inl i)
  | .str x => some (.inr x)
  | _ => none
section
variable {K : PySem.W.Frag} {A : Addr → Prop} {H : Hp}
theorem IsK.val {k : Key} : ∀ {kvs : List (Key × V)} {kds : List (Key × D)}, IsK K A H kvs kds → (∀ d, valD kds k = some d → ∃ v, valV kvs k = some v ∧ Is K A H v d) ∧ (valD kds k = none → valV kvs k = none)
  | _, _, .nil => ⟨fun d e => (by simp [valD] at e), fun _ => rfl⟩
  | _, _, .cons (k := j) (v := v) (d := d) (vs := vs) (ds := ds) h t => by
    obtain ⟨h1, h2⟩ := IsK.val (k := k) t
    by_cases e : j = k
    · subst e
      have e1 : valD ((j, d) :: ds) j = some d := by simp [valD, List.find?_cons]
      have e2 : valV ((j, v) :: vs) j = some v := valV_pos rfl
      rw [e1, e2]
      exact ⟨fun d' q => by cases q; exact ⟨v, rfl, h⟩, fun q => by cases q⟩
    · have e1 : valD ((j, d) :: ds) k = valD ds k := by simp [valD, List.find?_cons, e]
      have e2 : valV ((j, v) :: vs) k = valV vs k := valV_neg e
      rw [e1, e2]
      exact ⟨h1, h2⟩
theorem IsK.any {k : Key} : ∀ {kvs : List (Key × V)} {kds : List (Key × D)}, IsK K A H kvs kds → (kvs.any fun kv => decide (kv.1 = k)) = kds.any fun kv => decide (kv.1 = k)
  | _, _, .nil => rfl
  | _, _, .cons h t => by rw [List.any_cons, List.any_cons, IsK.any t]
theorem IsK.map {k : Key} {v : V} {d : D} (hv : Is K A H v d) : ∀ {kvs : List (Key × V)} {kds : List (Key × D)}, IsK K A H kvs kds → IsK K A H (kvs.map fun kv => if kv.1 = k then (kv.1, v) else kv) (kds.map fun kv => if kv.1 = k then (kv.1, d) else kv)
  | _, _, .nil => .nil
  | _, _, .cons (k := j) h t => by
    rw [List.map_cons, List.map_cons]
    by_cases e : j = k
    · subst e
      rw [if_pos rfl, if_pos rfl]
      exact .cons hv (IsK.map hv t)
    · rw [if_neg e, if_neg e]
      exact .cons h (IsK.map hv t)
theorem IsK.append : ∀ {kvs : List (Key × V)} {kds : List (Key × D)} {kvs' : List (Key × V)} {kds' : List (Key × D)}, IsK K A H kvs kds → IsK K A H kvs' kds' → IsK K A H (kvs ++ kvs') (kds ++ kds')
  | _, _, _, _, .nil, h => h
  | _, _, _, _, .cons h t, q => .cons h (IsK.append t q)
theorem IsK.put {k : Key} {v : V} {d : D} (hv : Is K A H v d) {kvs : List (Key × V)} {kds : List (Key × D)} (h : IsK K A H kvs kds) : IsK K A H (putK kvs k v) (putD kds k d) := by
  unfold putK putD
  rw [h.any (k := k)]
  split
  · exact h.map hv
  · exact h.append (.cons hv .nil)
theorem IsK.merge {more : List (Key × V)} {mds : List (Key × D)} (q : IsK K A H more mds) : ∀ {kvs : List (Key × V)} {kds : List (Key × D)}, IsK K A H kvs kds → IsK K A H (mergeK kvs more) (mergeD kds mds) :=
  match q with
  | .nil => fun h => h
  | .cons q t => fun h => IsK.merge t (h.put q)
theorem IsK.len : ∀ {kvs : List (Key × V)} {kds : List (Key × D)}, IsK K A H kvs kds → kvs.length = kds.length
  | _, _, .nil => rfl
  | _, _, .cons h t => congrArg (· + 1) (IsK.len t)
theorem keyD_kV {v : V} {d : D} {k : Key} (e : keyD d = some k) (h : Is K A H v d) : v = kV k := by
  cases h <;> simp only [keyD, Option.some.injEq, reduceCtorEq] at e
  · subst e; rfl
  · subst e; rfl
end
def kD : Key → D
  | .inl i => .int i
  | .inr x => .str x
theorem kD_is {K : PySem.W.Frag} {A : Addr → Prop} {H : Hp} (k : Key) : Is K A H (kV k) (kD k) := by
  cases k with
  | inl i => exact .int i
  | inr x => exact .str x
theorem IsK.keys {K : PySem.W.Frag} {A : Addr → Prop} {H : Hp} : ∀ {kvs : List (Key × V)} {kds : List (Key × D)}, IsK K A H kvs kds → IsL K A H (kvs.map fun kv => kV kv.1) (kds.map fun kv => kD kv.1)
  | _, _, .nil => .nil
  | _, _, .cons _ t => .cons (kD_is _) (IsK.keys t)
theorem IsK.get {K : PySem.W.Frag} {A : Addr → Prop} {H : Hp} {kvs : List (Key × V)} {kds : List (Key × D)} (h : IsK K A H kvs kds) (k : Key) : (valV kvs k).isSome = (valD kds k).isSome := by
  obtain ⟨h1, h2⟩ := h.val (k := k)
  cases e : valD kds k with
  | none => rw [h2 e]; rfl
  | some d =>
    obtain ⟨v, e2, _⟩ := h1 d e
    rw [e2]; rfl
theorem is1_key {K : PySem.W.Frag} {A : Addr → Prop} {H : Hp} {v : V} {d : D} {k : Key} (e : keyD d = some k) (h : Is1 K A H v d) : v = kV k := by
  cases d <;> simp only [keyD, Option.some.injEq, reduceCtorEq] at e
  · subst e; cases h; rfl
  · subst e; cases h; rfl
end DL
set_option Elab.async false
set_option linter.all false
set_option maxRecDepth 100000
namespace DL
open PySem PySem.Spec PyProof.Rows L2
section
variable {K : PySem.W.Frag} {A : Addr → Prop} {H : Hp}
theorem is1_int {v : V} {i : Int} (h : Is1 K A H v (.int i)) : v = .int i := by
  have h : Is K A H v (.int i) := h
  cases h; rfl
theorem is1_bl {v : V} {i : Bool} (h : Is1 K A H v (.bl i)) : v = .bl i := by
  have h : Is K A H v (.bl i) := h
  cases h; rfl
theorem is1_str {v : V} {i : Str} (h : Is1 K A H v (.str i)) : v = .str i := by
  have h : Is K A H v (.str i) := h
  cases h; rfl
theorem is1_non {v : V} (h : Is1 K A H v .non) : v = .non := by
  have h : Is K A H v .non := h
  cases h; rfl
theorem is1_ref {v : V} {a : Addr} (h : Is1 K A H v (.ref a)) : v = .ref a := by
  have h : Is K A H v (.ref a) := h
  cases h; rfl
theorem Is1.dp : ∀ {v : V} {d : D}, Is1 K A H v d → d.pl = true → Dp K H v d.py
  | _, .non, h, e => Is.dp h e
  | _, .bl _, h, e => Is.dp h e
  | _, .int _, h, e => Is.dp h e
  | _, .str _, h, e => Is.dp h e
  | _, .ty _, h, e => by simp [D.pl] at e
  | _, .ref _, h, e => by simp [D.pl] at e
  | _, .tup _, ⟨a, vs, h1, h2, h3⟩, e => by
    subst h1
    exact .tup h2 (IsL.dp h3 (by simpa [D.pl] using e))
  | _, .lst _, ⟨a, vs, h1, h2, h3⟩, e => by
    subst h1
    exact .lst (SqL.of h2) (IsL.dp h3 (by simpa [D.pl] using e))
  | _, .dic _, h, e => by simp [D.pl] at e
end
/-- data of which == may be asked -/
def D.ok (d : D) : Bool := d.pl && SeqAt.shaped d.py
def D.eqv (d e : D) : Bool := PyData.eqv d.py e.py
/-- an operation on two ints alone -/
def goI (C : Int → Int → Prop) (f : Int → Int → D) : GO := fun d e M Q => match d, e with
  | .int i, .int j => C i j ∧ Q (f i j) M
  | _, _ => False
theorem goI_mono {C : Int → Int → Prop} {f : Int → Int → D} : ∀ d e M Q Q', (∀ d M', Q d M' → Q' d M') → goI C f d e M Q → goI C f d e M Q' := fun d e M Q Q' h q => by
  unfold goI at q ⊢
  split at q
  · exact ⟨q.1, h _ _ q.2⟩
  · exact q.elim
section
variable {X : Cx}
theorem opd_I {f : Value → Value → Sem Value} {C : Int → Int → Prop} {g : Int → Int → V} {g' : Int → Int → D} (h : OpR X f (rI C g)) (hg : ∀ A H i j, Is X.K A H (g i j) (g' i j)) : OpD X f (goI C g') where
  ex := ⟨_, h, fun B E σ H r M O x y d e Q R i1 i2 q => by
    unfold goI at q
    split at q
    · rename_i i j
      rw [is1_int i1, is1_int i2]
      exact ⟨i, j, rfl, rfl, q.1, fin_v R (hg _ _ _ _) q.2⟩
    · exact q.elim⟩
  mono := goI_mono
theorem rI_of0 {f : Value → Value → Sem Value} {g : Int → Int → V} (h : OpR X f (rI0 g)) : OpR X f (rI (fun _ _ => True) g) := by
  intro pins s σ H x y v u Q I rx ry ⟨i, j, e1, e2, _, q⟩
  exact h pins s σ H x y v u Q I rx ry ⟨i, j, e1, e2, q⟩
theorem od_sub : OpD X (binaryOp .Sub) (goI (fun _ _ => True) fun i j => .int (i - j)) := opd_I (rI_of0 op_sub) fun _ _ _ _ => .int _
theorem od_mod : OpD X (binaryOp .Mod) (goI (fun _ j => 0 < j) fun i j => .int (i % j)) := opd_I op_mod fun _ _ _ _ => .int _
theorem od_fdiv : OpD X (binaryOp .FloorDiv) (goI CDivW fun i j => .int (i / j)) := opd_I op_fdivW fun _ _ _ _ => .int _
theorem od_pow : OpD X (binaryOp .Pow) (goI CPow fun i j => .int (i ^ j.toNat)) := opd_I op_pow fun _ _ _ _ => .int _
theorem od_mulI : OpD X (binaryOp .Mult) (goI CMul fun i j => .int (i * j)) := opd_I op_mul fun _ _ _ _ => .int _
theorem od_le : OpD X (compareOp .LtE) (goI (fun _ _ => True) fun i j => .bl (decide (i ≤ j))) := opd_I (rI_of0 op_le) fun _ _ _ _ => .bl _
theorem od_gt : OpD X (compareOp .Gt) (goI (fun _ _ => True) fun i j => .bl (decide (j < i))) := opd_I (rI_of0 op_gt) fun _ _ _ _ => .bl _
theorem od_ge : OpD X (compareOp .GtE) (goI (fun _ _ => True) fun i j => .bl (decide (j ≤ i))) := opd_I (rI_of0 op_ge) fun _ _ _ _ => .bl _
def guI (f : Int → D) : GU := fun d M Q => match d with
  | .int i => Q (f i) M
  | _ => False
theorem ud_neg : UnD X (unaryOp .USub) (guI fun i => .int (-i)) where
  ex := ⟨_, un_neg, fun B E σ H r M O x d Q R i1 q => by
    unfold guI at q
    split at q
    · rename_i i
      rw [is1_int i1]
      exact ⟨i, rfl, fin_v R (.int _) q⟩
    · exact q.elim⟩
  mono := fun d M Q Q' h q => by
    unfold guI at q ⊢
    split at q
    · exact h _ _ q
    · exact q.elim
/-- + -/
def goAdd : GO := fun d e M Q => match d, e with
  | .int i, .int j => Q (.int (i + j)) M
  | .str x, .str y => x.length + y.length ≤ sizeLine ∧ Q (.str (x ++ y)) M
  | .tup xs, .tup ys => xs.length + ys.length ≤ sizeLine ∧ Q (.tup (xs ++ ys)) M
  | .lst xs, .lst ys => xs.length + ys.length ≤ sizeLine ∧ Q (.lst (xs ++ ys)) M
  | _, _ => False
end
end DL
namespace DL
open PySem PySem.Spec PyProof.Rows L2
section
variable {X : Cx}
theorem fin_cat {B : Addr → Prop} {E : En} {σ : L2.St} {H : Hp} {r : Fr} {M : Mem} {O : Own} {Q : VK} {a b : Addr} {vs ws : List V} {xs ys : List D} (R : Rep X B E σ H r M O) (s1 : SqT X.K H a vs) (s2 : SqT X.K H b ws)
    (t1 : vs = [] → Is X.K (Av B M O) H (.ref b) (.tup ys)) (t2 : ws = [] → Is X.K (Av B M O) H (.ref a) (.tup xs)) (l1 : IsL X.K (Av B M O) H vs xs) (l2 : IsL X.K (Av B M O) H ws ys) (hz : xs.length + ys.length ≤ sizeLine)
    (q : LE true true X B E σ r H M O Q (.tup (xs ++ ys)) M) : rCatF X.K (.ref a) (.ref b) H Q := by
  refine ⟨a, b, vs, ws, rfl, rfl, s1, s2, by rw [l1.length, l2.length]; exact hz, fun e => ?_, fun e1 e2 => ?_, fun _ _ => ?_⟩
  · have e' : xs = [] := by
      subst e
      cases l1
      rfl
    subst e'
    exact fin_v R (t1 e) q
  · have e' : ys = [] := by
      subst e2
      cases l2
      rfl
    subst e'
    rw [List.append_nil] at q
    exact fin_v R (t2 e2) q
  · exact fin_tup R (l1.append l2) q
/-- + of strong operands (a tuple plus nothing is the tuple itself) -/
theorem od_addT {B : Addr → Prop} {E : En} {σ : L2.St} {H : Hp} {r : Fr} {M : Mem} {O : Own} {x y : V} {d e : D} {Q : VK} (R : Rep X B E σ H r M O) (i1 : Is X.K (Av B M O) H x d) (i2 : Is X.K (Av B M O) H y e)
    (q : goAdd d e M (LE true true X B E σ r H M O Q)) : (rI0 (fun i j => V.int (i + j)) x y H Q) ∨ (∃ i j, x = .str i ∧ y = .str j ∧ i.length + j.length ≤ sizeLine ∧ Q (.str (i ++ j)) H) ∨ rCatF X.K x y H Q ∨ rCat x y H Q := by
  unfold goAdd at q
  split at q
  · cases i1; cases i2
    exact .inl ⟨_, _, rfl, rfl, fin_v R (.int _) q⟩
  · cases i1; cases i2
    exact .inr (.inl ⟨_, _, rfl, rfl, q.1, fin_v R (.str _) q.2⟩)
  · cases i1 with
    | tup h1 l1 =>
      cases i2 with
      | tup h2 l2 => exact .inr (.inr (.inl (fin_cat R h1.sq h2.sq (fun _ => .tup h2 l2) (fun _ => .tup h1 l1) l1 l2 q.1 q.2)))
  · cases i1 with
    | lst h1 l1 =>
      cases i2 with
      | lst h2 l2 => exact .inr (.inr (.inr ⟨_, _, _, _, rfl, rfl, h1.2, h2.2, by rw [l1.length, l2.length]; exact q.1, fin_lst R (l1.append l2) q.2⟩))
  · exact q.elim
theorem goAdd_mono : ∀ d e M Q Q', (∀ d M', Q d M' → Q' d M') → goAdd d e M Q → goAdd d e M Q' := fun d e M Q Q' h q => by
  unfold goAdd at q ⊢
  split at q
  · exact h _ _ q
  · exact ⟨q.1, h _ _ q.2⟩
  · exact ⟨q.1, h _ _ q.2⟩
  · exact ⟨q.1, h _ _ q.2⟩
  · exact q.elim
theorem op_addAll : OpR X (binaryOp .Add) (fun x y H Q => (rI0 (fun i j => V.int (i + j)) x y H Q) ∨ (∃ i j, x = .str i ∧ y = .str j ∧ i.length + j.length ≤ sizeLine ∧ Q (.str (i ++ j)) H) ∨ rCatF X.K x y H Q ∨ rCat x y H Q) :=
  op_add.or (op_add_str.or (op_catF.or op_cat))
variable {w1 w2 p : Bool} {a b : Expr} {ga gb : GE} {pos : Pos}
/-- a + b, both kept apart -/
theorem de_add (ha : DE true p X a ga) (hb : DE true p X b gb) : DE true p X (.BinOp a .Add b pos) (g2 goAdd ga gb) := by
  refine ⟨peI (pe_op op_addAll ha.run hb.run) fun σ H Q ⟨B, E, r, M, O, R, q⟩ => ?_, g2_mono ha.mono hb.mono goAdd_mono⟩
  refine ha.on R q fun d M1 v H1 O1 k1 R1 l1 i1 => ?_
  refine hb.on R1 k1 fun e M2 u H2 O2 k2 R2 l2 i2 => ?_
  exact od_addT R2 (IsX.next (w := true) rfl l2 i1) i2 (goAdd_mono _ _ _ _ _ (fun z M' q3 v3 H3 O3 R3 l3 i3 => q3 v3 H3 O3 R3 ((l1.trans l2).trans l3.weak) i3) k2)
/-- a + b of lists and numbers, lent ones too -/
def goAddW : GO := fun d e M Q => match d, e with
  | .int i, .int j => Q (.int (i + j)) M
  | .lst xs, .lst ys => xs.length + ys.length ≤ sizeLine ∧ Q (.lst (xs ++ ys)) M
  | _, _ => False
theorem ok_and {d : D} (h : d.ok = true) : d.pl = true ∧ SeqAt.shaped d.py = true := Bool.and_eq_true_iff.mp h
/-- flat things -/
def D.flat : D → Bool
  | .non | .bl _ | .int _ | .str _ => true
  | _ => false
theorem flat_V {K : PySem.W.Frag} {A : Addr → Prop} {H : Hp} {v : V} {d : D} (i : Is1 K A H v d) (h : d.flat = true) : flatV v = true := by
  cases d with
  | non => rw [is1_non i]; rfl
  | bl b => rw [is1_bl i]; rfl
  | int b => rw [is1_int i]; rfl
  | str b => rw [is1_str i]; rfl
  | _ => exact absurd (show false = true from h) Bool.false_ne_true
theorem eqV_eqv {K : PySem.W.Frag} {A : Addr → Prop} {H : Hp} {v u : V} {d e : D} (i : Is1 K A H v d) (j : Is1 K A H u e) (h : d.flat = true) (h' : e.flat = true) : eqV v u = d.eqv e := by
  unfold D.eqv
  cases d with
  | non =>
    rw [is1_non i]
    cases e with
    | non => rw [is1_non j]; simp [eqV, D.py, PyData.eqv]
    | bl b => rw [is1_bl j]; simp [eqV, D.py, PyData.eqv]
    | int b => rw [is1_int j]; simp [eqV, D.py, PyData.eqv]
    | str b => rw [is1_str j]; simp [eqV, D.py, PyData.eqv]
    | _ => exact absurd (show false = true from h') Bool.false_ne_true
  | bl c =>
    rw [is1_bl i]
    cases e with
    | non => rw [is1_non j]; simp [eqV, D.py, PyData.eqv]
    | bl b => rw [is1_bl j]; simp [eqV, D.py, PyData.eqv]
    | int b => rw [is1_int j]; simp [eqV, D.py, PyData.eqv]
    | str b => rw [is1_str j]; simp [eqV, D.py, PyData.eqv]
    | _ => exact absurd (show false = true from h') Bool.false_ne_true
  | int c =>
    rw [is1_int i]
    cases e with
    | non => rw [is1_non j]; simp [eqV, D.py, PyData.eqv]
    | bl b => rw [is1_bl j]; simp [eqV, D.py, PyData.eqv]
    | int b => rw [is1_int j]; simp [eqV, D.py, PyData.eqv]
    | str b => rw [is1_str j]; simp [eqV, D.py, PyData.eqv]
    | _ => exact absurd (show false = true from h') Bool.false_ne_true
  | str c =>
    rw [is1_str i]
    cases e with
    | non => rw [is1_non j]; simp [eqV, D.py, PyData.eqv]
    | bl b => rw [is1_bl j]; simp [eqV, D.py, PyData.eqv]
    | int b => rw [is1_int j]; simp [eqV, D.py, PyData.eqv]
    | str b => rw [is1_str j]; simp [eqV, D.py, PyData.eqv]
    | _ => exact absurd (show false = true from h') Bool.false_ne_true
  | _ => exact absurd (show false = true from h) Bool.false_ne_true
theorem flats_V {K : PySem.W.Frag} {A : Addr → Prop} {H : Hp} : ∀ {vs : List V} {ds : List D}, IsL K A H vs ds → ds.all D.flat = true → vs.all flatV = true
  | _, _, .nil, _ => rfl
  | _, _, .cons i l, h => by
    rw [List.all_cons, Bool.and_eq_true] at h ⊢
    exact ⟨flat_V i.one h.1, flats_V l h.2⟩
theorem inV_any {K : PySem.W.Frag} {A : Addr → Prop} {H : Hp} {v : V} {d : D} (i : Is1 K A H v d) (h : d.flat = true) : ∀ {vs : List V} {ds : List D}, IsL K A H vs ds → ds.all D.flat = true → inV v vs = ds.any fun z => z.eqv d
  | _, _, .nil, _ => rfl
  | _, _, .cons j l, hh => by
    rw [List.all_cons, Bool.and_eq_true] at hh
    have t := inV_any i h l hh.2
    unfold inV at t ⊢
    rw [List.any_cons, List.any_cons, t, eqV_eqv j.one i hh.1 h]
def goIn (neg : Bool) : GO := fun d e M Q => match e with
  | .tup ds => (d.flat = true ∧ ds.all D.flat = true) ∧ Q (.bl (xor neg (ds.any fun z => z.eqv d))) M
  | .lst ds => (d.ok = true ∧ D.ok (.lst ds) = true) ∧ Q (.bl (xor neg (ds.any fun z => z.eqv d))) M
  | .dic kds => ∃ k, keyD d = some k ∧ Q (.bl (xor neg (valD kds k).isSome)) M
  | _ => False
/-- k in d, a dict -/
def rInK (neg : Bool) : R2 := fun x y H Q => ∃ a o, y = V.ref a ∧ DGet H a x o ∧ Q (.bl (xor neg o.isSome)) H
theorem op_inK {X : Cx} (hu : X.A.units + 1 < cLine) : OpR X (compareOp .In) (rInK false) := by
  intro pins s σ H x y v u Q I rx ry h
  obtain ⟨a, o, rfl, g, q⟩ := h
  cases ry
  rw [Bool.false_xor] at q
  exact d_in hu I g rx fun s' I' => ⟨.bl o.isSome, H, I', rfl, q⟩
theorem op_notInK {X : Cx} (hu : X.A.units + 1 < cLine) : OpR X (compareOp .NotIn) (rInK true) := by
  intro pins s σ H x y v u Q I rx ry h
  obtain ⟨a, o, rfl, g, q⟩ := h
  cases ry
  rw [Bool.true_xor] at q
  exact d_notIn hu I g rx fun s' I' => ⟨.bl (!o.isSome), H, I', rfl, q⟩
theorem rInK_of {K : PySem.W.Frag} {A : Addr → Prop} {H : Hp} {neg : Bool} {x y : V} {d : D} {kds : List (Key × D)} {k : Key} {Q : VK} (i1 : Is1 K A H x d) (i2 : Is1 K A H y (.dic kds)) (e : keyD d = some k) (q : Q (.bl (xor neg (valD kds k).isSome)) H) : rInK neg x y H Q := by
  obtain ⟨a, kvs, rfl, h2, l2⟩ := i2
  have := is1_key e i1
  subst this
  exact ⟨a, valV kvs k, rfl, .inl ⟨kvs, k, h2, rfl, rfl⟩, by rw [l2.get k]; exact q⟩
theorem goIn_mono {neg : Bool} : ∀ d e M Q Q', (∀ d M', Q d M' → Q' d M') → goIn neg d e M Q → goIn neg d e M Q' := fun d e M Q Q' h q => by
  unfold goIn at q ⊢
  split at q
  · exact ⟨q.1, h _ _ q.2⟩
  · exact ⟨q.1, h _ _ q.2⟩
  · obtain ⟨k, e, q⟩ := q
    exact ⟨k, e, h _ _ q⟩
  · exact q.elim
theorem any_py (d : D) : ∀ ds : List D, ((D.pyL ds).any fun z => PyData.eqv z d.py) = ds.any fun z => z.eqv d
  | [] => rfl
  | e :: r => by
    rw [List.any_cons, ← any_py d r]
    simp only [D.pyL, List.any_cons, D.eqv]
theorem od_in (hu : X.A.units + 65 < cLine) : OpD X (compareOp .In) (goIn false) where
  ex := ⟨_, (op_in_seq.or (op_inD hu)).or (op_inK (by omega)), fun B E σ H r M O x y d e Q R i1 i2 q => by
    unfold goIn at q
    split at q
    · obtain ⟨a, vs, e2, h2, l2⟩ := i2
      refine .inl (.inl ⟨a, vs, e2, .inr h2, flat_V i1 q.1.1, flats_V l2 q.1.2, ?_⟩)
      have q2 := q.2
      rw [← inV_any i1 q.1.1 l2 q.1.2, Bool.false_xor] at q2
      exact fin_v R (.bl _) q2
    · rename_i ds
      refine .inl (.inr ⟨d.py, D.pyL ds, i1.dp (ok_and q.1.1).1, i2.dp (ok_and q.1.2).1, (ok_and q.1.1).2, (ok_and q.1.2).2, ?_⟩)
      have q2 := q.2
      rw [← any_py, Bool.false_xor] at q2
      exact fin_v R (.bl _) q2
    · obtain ⟨k, e, q⟩ := q
      exact .inr (rInK_of i1 i2 e (fin_v R (.bl _) q))
    · exact q.elim⟩
  mono := goIn_mono
theorem od_notin (hu : X.A.units + 65 < cLine) : OpD X (compareOp .NotIn) (goIn true) where
  ex := ⟨_, (op_notIn_seq.or (op_notInD hu)).or (op_notInK (by omega)), fun B E σ H r M O x y d e Q R i1 i2 q => by
    unfold goIn at q
    split at q
    · obtain ⟨a, vs, e2, h2, l2⟩ := i2
      refine .inl (.inl ⟨a, vs, e2, .inr h2, flat_V i1 q.1.1, flats_V l2 q.1.2, ?_⟩)
      have q2 := q.2
      rw [← inV_any i1 q.1.1 l2 q.1.2, Bool.true_xor] at q2
      exact fin_v R (.bl _) q2
    · rename_i ds
      refine .inl (.inr ⟨d.py, D.pyL ds, i1.dp (ok_and q.1.1).1, i2.dp (ok_and q.1.2).1, (ok_and q.1.1).2, (ok_and q.1.2).2, ?_⟩)
      have q2 := q.2
      rw [← any_py, Bool.true_xor] at q2
      exact fin_v R (.bl _) q2
    · obtain ⟨k, e, q⟩ := q
      exact .inr (rInK_of i1 i2 e (fin_v R (.bl _) q))
    · exact q.elim⟩
  mono := goIn_mono
/-- is None, is not None -/
def D.isN : D → Bool
  | .non => true
  | _ => false
def goIsN (neg : Bool) : GO := fun d e M Q => match e with
  | .non => Q (.bl (xor neg d.isN)) M
  | _ => False
theorem isN_dec {K : PySem.W.Frag} {A : Addr → Prop} {H : Hp} {v : V} {d : D} (i : Is1 K A H v d) : decide (v = .non) = d.isN := by
  cases d with
  | non => rw [is1_non i]; rfl
  | bl b => rw [is1_bl i]; rfl
  | int b => rw [is1_int i]; rfl
  | str b => rw [is1_str i]; rfl
  | ty b =>
    have i : Is K A H v (.ty b) := i
    cases i; rfl
  | ref b => rw [is1_ref i]; rfl
  | tup b => obtain ⟨_, _, rfl, _⟩ := i; rfl
  | lst b => obtain ⟨_, _, rfl, _⟩ := i; rfl
  | dic b => obtain ⟨_, _, rfl, _⟩ := i; rfl
theorem goIsN_mono {neg : Bool} : ∀ d e M Q Q', (∀ d M', Q d M' → Q' d M') → goIsN neg d e M Q → goIsN neg d e M Q' := fun d e M Q Q' h q => by
  unfold goIsN at q ⊢
  split at q
  · exact h _ _ q
  · exact q.elim
theorem od_isN : OpD X (compareOp .Is) (goIsN false) where
  ex := ⟨_, op_isN, fun B E σ H r M O x y d e Q R i1 i2 q => by
    unfold goIsN at q
    split at q
    · refine ⟨is1_non i2, ?_⟩
      rw [Bool.false_xor, ← isN_dec i1] at q
      exact fin_v R (.bl _) q
    · exact q.elim⟩
  mono := goIsN_mono
end
end DL
set_option Elab.async false
set_option linter.all false
set_option maxRecDepth 100000
namespace DL
open PySem PySem.Spec PyProof.Rows L2
abbrev GA := Fr → Mem → (List D → Mem → Prop) → Prop
def IsXL (w : Bool) (K : PySem.W.Frag) (A : Addr → Prop) (H : Hp) : List V → List D → Prop
  | [], [] => True
  | v :: vs, d :: ds => IsX w K A H v d ∧ IsXL w K A H vs ds
  | _, _ => False
theorem isXL_strong {K : PySem.W.Frag} {A : Addr → Prop} {H : Hp} : ∀ {vs : List V} {ds : List D}, IsXL true K A H vs ds → IsL K A H vs ds
  | [], [], _ => .nil
  | v :: vs, d :: ds, ⟨h, t⟩ => .cons h (isXL_strong t)
  | [], _ :: _, h => h.elim
  | _ :: _, [], h => h.elim
def LA (w p : Bool) (X : Cx) (B : Addr → Prop) (E : En) (σ : L2.St) (r : Fr) (H : Hp) (M : Mem) (O : Own) (Q : List V → Hp → Prop) : List D → Mem → Prop := fun ds M' =>
  ∀ vs H' O', Rep X B E σ H' r M' O' → Rl p M O H M' O' H' → IsXL w X.K (Av B M' O') H' vs ds → Q vs H'
structure DA (w p : Bool) (X : Cx) (es : List Expr) (g : GA) : Prop where
  run : PA X es (fun σ H Q => ∃ B E r M O, Rep X B E σ H r M O ∧ g r M (LA w p X B E σ r H M O Q))
  mono : ∀ r M Q Q', (∀ d M', Q d M' → Q' d M') → g r M Q → g r M Q'
theorem paI {X : Cx} {es : List Expr} {t t' : TA} (h : PA X es t) (i : ∀ σ H Q, t' σ H Q → t σ H Q) : PA X es t' := ⟨fun pos pins s σ H Q I q => h.run pos pins s σ H Q I (i σ H Q q)⟩
def gNil : GA := fun _ M Q => Q [] M
def gCons (ge : GE) (ga : GA) : GA := fun r M Q => ge r M fun d M1 => ga r M1 fun ds M2 => Q (d :: ds) M2
section
variable {X : Cx} {w w1 w2 p : Bool} {a b c e : Expr} {es : List Expr} {g ga gb gc : GE} {gs : GA} {B : Addr → Prop} {E : En} {σ : L2.St} {H : Hp} {r : Fr} {M : Mem} {O : Own} {pos : Pos}
theorem da_nil : DA w p X [] gNil := ⟨paI pa_nil fun σ H Q ⟨B, E, r, M, O, R, q⟩ => q [] H O R Rl.refl trivial, fun r M Q Q' h q => h _ _ q⟩
theorem DA.on (ha : DA w p X es gs) (R : Rep X B E σ H r M O) {k : List D → Mem → Prop} (h : gs r M k) {Q : List V → Hp → Prop}
    (hk : ∀ d M1 v H1 O1, k d M1 → Rep X B E σ H1 r M1 O1 → Rl p M O H M1 O1 H1 → IsXL w X.K (Av B M1 O1) H1 v d → Q v H1) :
    ∃ B E r M O, Rep X B E σ H r M O ∧ gs r M (LA w p X B E σ r H M O Q) :=
  ⟨B, E, r, M, O, R, ha.mono r M _ _ (fun d M1 h1 v H1 O1 R1 l1 i1 => hk d M1 v H1 O1 h1 R1 l1 i1) h⟩
theorem da_cons (ha : DE w p X e g) (hr : DA w p X es gs) (hw : (w || p) = true := by first | rfl | exact Bool.or_true _) (hs : starEach (e :: es) X.env = (false, eval e X.env) :: starEach es X.env := by rfl) : DA w p X (e :: es) (gCons g gs) := by
  refine ⟨paI (pa_cons ha.run hr.run hs) fun σ H Q ⟨B, E, r, M, O, R, q⟩ => ?_, fun r M Q Q' h q => ha.mono r M _ _ (fun d M1 q1 => hr.mono r M1 _ _ (fun ds M2 q2 => h _ _ q2) q1) q⟩
  refine ha.on R q fun d M1 v H1 O1 k1 R1 l1 i1 => ?_
  refine hr.on R1 k1 fun ds M2 vs H2 O2 k2 R2 l2 i2 => ?_
  exact k2 (v :: vs) H2 O2 R2 (l1.trans l2) ⟨IsX.next hw l2 i1, i2⟩
/-- the last argument, whatever it does -/
theorem da_one (ha : DE w p X e g) (hs : starEach [e] X.env = (false, eval e X.env) :: starEach [] X.env := by rfl) : DA w p X [e] (gCons g gNil) := by
  refine ⟨paI (pa_cons ha.run pa_nil hs) fun σ H Q ⟨B, E, r, M, O, R, q⟩ => ?_, fun r M Q Q' h q => ha.mono r M _ _ (fun d M1 q1 => h _ _ q1) q⟩
  exact ha.on R q fun d M1 v H1 O1 k1 R1 l1 i1 => k1 [v] H1 O1 R1 l1 ⟨i1, trivial⟩
def gTup (gs : GA) : GE := fun r M Q => gs r M fun ds M1 => Q (.tup ds) M1
def gLst (gs : GA) : GE := fun r M Q => gs r M fun ds M1 => Q (.lst ds) M1
theorem de_tup {x1} (hs : DA true p X es gs) (hz : ∀ r M Q, gs r M Q → gs r M fun ds M1 => ds.length ≤ sizeLine ∧ Q ds M1) : DE true p X (.Tuple es x1 pos) (gTup gs) := by
  refine ⟨peI (pe_tupF hs.run) fun σ H Q ⟨B, E, r, M, O, R, q⟩ => ?_, fun r M Q Q' h q => hs.mono r M _ _ (fun ds M1 q1 => h _ _ q1) q⟩
  refine hs.on R (hz _ _ _ q) fun ds M1 vs H1 O1 k1 R1 l1 i1 => ?_
  have i2 := isXL_strong i1
  exact ⟨by rw [i2.length]; exact k1.1, fin_tup R1 i2 (LE.go l1 k1.2)⟩
theorem de_lst (hs : DA true p X es gs) (hz : ∀ r M Q, gs r M Q → gs r M fun ds M1 => ds.length ≤ sizeLine ∧ Q ds M1) : DE true p X (.List es pos) (gLst gs) := by
  refine ⟨peI (pe_lst hs.run) fun σ H Q ⟨B, E, r, M, O, R, q⟩ => ?_, fun r M Q Q' h q => hs.mono r M _ _ (fun ds M1 q1 => h _ _ q1) q⟩
  refine hs.on R (hz _ _ _ q) fun ds M1 vs H1 O1 k1 R1 l1 i1 => ?_
  have i2 := isXL_strong i1
  exact ⟨by rw [i2.length]; exact k1.1, fin_lst R1 i2 (LE.go l1 k1.2)⟩
/-- how long a written list is -/
structure LenOf (n : Nat) (gs : GA) : Prop where
  h : ∀ r M Q, gs r M Q → gs r M fun ds M1 => ds.length = n ∧ Q ds M1
theorem len_nil : LenOf 0 gNil := ⟨fun r M Q q => ⟨rfl, q⟩⟩
theorem len_cons {n : Nat} (hm : ∀ r M Q Q', (∀ d M', Q d M' → Q' d M') → g r M Q → g r M Q') (hs : LenOf n gs) (hsm : ∀ r M Q Q', (∀ d M', Q d M' → Q' d M') → gs r M Q → gs r M Q') : LenOf (n + 1) (gCons g gs) :=
  ⟨fun r M Q q => hm r M _ _ (fun d M1 q1 => hsm r M1 _ _ (fun ds M2 q2 => ⟨congrArg (· + 1) q2.1, q2.2⟩) (hs.h _ _ _ q1)) q⟩
/-- an argument list with its length -/
structure DAn (w p : Bool) (X : Cx) (n : Nat) (es : List Expr) (gs : GA) : Prop where
  da : DA w p X es gs
  len : LenOf n gs
theorem an_nil : DAn w p X 0 [] gNil := ⟨da_nil, len_nil⟩
theorem an_cons {n : Nat} (ha : DE w p X e g) (hr : DAn w p X n es gs) (hw : (w || p) = true := by first | rfl | exact Bool.or_true _) (hs : starEach (e :: es) X.env = (false, eval e X.env) :: starEach es X.env := by rfl) : DAn w p X (n + 1) (e :: es) (gCons g gs) :=
  ⟨da_cons ha hr.da hw hs, len_cons ha.mono hr.len hr.da.mono⟩
theorem DAn.z {n : Nat} (h : DAn w p X n es gs) (hn : n ≤ sizeLine) : ∀ r M Q, gs r M Q → gs r M fun ds M1 => ds.length ≤ sizeLine ∧ Q ds M1 := fun r M Q q =>
  h.da.mono r M _ _ (fun ds M1 q1 => ⟨by rw [q1.1]; exact hn, q1.2⟩) (h.len.h _ _ _ q)
theorem de_tupN {x1} {n : Nat} (hs : DAn true p X n es gs) (hn : n ≤ sizeLine := by decide) : DE true p X (.Tuple es x1 pos) (gTup gs) := de_tup hs.da (hs.z hn)
theorem de_lstN {n : Nat} (hs : DAn true p X n es gs) (hn : n ≤ sizeLine := by decide) : DE true p X (.List es pos) (gLst gs) := de_lst hs.da (hs.z hn)
abbrev GC := List D → Mem → (D → Mem → Prop) → Prop
structure CaD (X : Cx) (f : Value) (gc : GC) : Prop where
  ex : ∃ rr : List V → Hp → VK → Prop, CallR X f rr ∧ ∀ B E σ H r M O xs ds Q, Rep X B E σ H r M O → IsXL false X.K (Av B M O) H xs ds → gc ds M (LE true true X B E σ r H M O Q) → rr xs H Q
  mono : ∀ d M Q Q', (∀ d M', Q d M' → Q' d M') → gc d M Q → gc d M Q'
theorem isXL_weak {w : Bool} {K : PySem.W.Frag} {A : Addr → Prop} {H : Hp} : ∀ {vs : List V} {ds : List D}, IsXL w K A H vs ds → IsXL false K A H vs ds
  | [], [], _ => trivial
  | v :: vs, d :: ds, ⟨h, t⟩ => ⟨h.one, isXL_weak t⟩
  | [], _ :: _, h => h.elim
  | _ :: _, [], h => h.elim
def gCa (gc : GC) (gs : GA) : GE := fun r M Q => gs r M fun ds M1 => gc ds M1 Q
variable {gcl : GC} {x : Str} {id T : String} {pf : Pos}
theorem de_callB (hc : CaD X (.builtin id) gcl) (hg : Gl X x) (hm : X.mg x = none) (hv : bootBuiltins x = some (.builtin id)) (ha : DA w p X (e :: es) gs) (hn : x ≠ "__name__" := by decide) (hdb : (x == ("__debug__" : Str)) = false := by decide)
    (he : starEach (e :: es) X.env = (false, eval e X.env) :: starEach es X.env := by rfl) (hpl : (backTo pos (starEach es X.env)).any (·.1) = false := by rfl) : DE true p X (.Call (.Name x pf) (e :: es) [] pos) (gCa gcl gs) := by
  obtain ⟨⟨rr, h1, h2⟩, hmo⟩ := hc
  refine ⟨peI (pe_callB h1 hg hm hv ha.run hn hdb he hpl) fun σ H Q ⟨B, E, r, M, O, R, q⟩ => ?_, fun r M Q Q' h q => ha.mono r M _ _ (fun ds M1 q1 => hmo _ _ _ _ h q1) q⟩
  refine ha.on R q fun ds M1 vs H1 O1 k1 R1 l1 i1 => ?_
  exact h2 B E σ H1 r M1 O1 vs ds Q R1 (isXL_weak i1) (hmo _ _ _ _ (fun z M' q3 v3 H3 O3 R3 l3 i3 => q3 v3 H3 O3 R3 (l1.trans l3.weak) i3) k1)
theorem de_callTy (hc : CaD X (.type T) gcl) (hg : Gl X x) (hm : X.mg x = none) (hv : bootBuiltins x = some (.type T)) (ha : DA w p X (e :: es) gs) (hn : x ≠ "__name__" := by decide) (hdb : (x == ("__debug__" : Str)) = false := by decide)
    (he : starEach (e :: es) X.env = (false, eval e X.env) :: starEach es X.env := by rfl) (hpl : (backTo pos (starEach es X.env)).any (·.1) = false := by rfl) : DE true p X (.Call (.Name x pf) (e :: es) [] pos) (gCa gcl gs) := by
  obtain ⟨⟨rr, h1, h2⟩, hmo⟩ := hc
  refine ⟨peI (pe_callTy h1 hg hm hv ha.run hn hdb he hpl) fun σ H Q ⟨B, E, r, M, O, R, q⟩ => ?_, fun r M Q Q' h q => ha.mono r M _ _ (fun ds M1 q1 => hmo _ _ _ _ h q1) q⟩
  refine ha.on R q fun ds M1 vs H1 O1 k1 R1 l1 i1 => ?_
  exact h2 B E σ H1 r M1 O1 vs ds Q R1 (isXL_weak i1) (hmo _ _ _ _ (fun z M' q3 v3 H3 O3 R3 l3 i3 => q3 v3 H3 O3 R3 (l1.trans l3.weak) i3) k1)
/-- a built-in class as a value -/
theorem de_ty {T : String} (hg : Gl X x) (hm : X.mg x = none) (hv : bootBuiltins x = some (.type T)) (hn : x ≠ "__name__" := by decide) (hdb : (x == ("__debug__" : Str)) = false := by decide) : DE true p X (.Name x pos) (gC (.ty T)) :=
  ⟨peI (pe_bltn hg hm hv (v := .ty T) rfl hn hdb) fun σ H Q ⟨B, E, r, M, O, R, q⟩ => q _ H O R Rl.refl (.ty T), fun _ _ _ _ h q => h _ _ q⟩
theorem isXL1 {K : PySem.W.Frag} {A : Addr → Prop} {H : Hp} {vs : List V} {d : D} (h : IsXL false K A H vs [d]) : ∃ v, vs = [v] ∧ Is1 K A H v d := by
  match vs, h with
  | [v], ⟨i, _⟩ => exact ⟨v, rfl, i⟩
theorem isXL2 {K : PySem.W.Frag} {A : Addr → Prop} {H : Hp} {vs : List V} {d e : D} (h : IsXL false K A H vs [d, e]) : ∃ v u, vs = [v, u] ∧ Is1 K A H v d ∧ Is1 K A H u e := by
  match vs, h with
  | [v, u], ⟨i, j, _⟩ => exact ⟨v, u, rfl, i, j⟩
/-- len -/
def gcLen : GC := fun ds M Q => match ds with
  | [.lst xs] => Q (.int xs.length) M
  | [.tup xs] => Q (.int xs.length) M
  | [.str x] => x.length ≤ sizeLine ∧ Q (.int x.length) M
  | [.dic kds] => Q (.int kds.length) M
  | _ => False
theorem call_lenK : CallR X (.builtin "len") (fun xs H Q => ∃ a kvs, xs = [V.ref a] ∧ Rd H a (.dK kvs) ∧ Q (.int kvs.length) H) := by
  intro pins s σ H xs us Q I r h
  obtain ⟨a, kvs, rfl, ha, q⟩ := h
  obtain ⟨u, rfl, ru⟩ := vals1 r
  cases ru
  exact d_len I ha fun t s' I' => ⟨.int kvs.length, H, I', ⟨t, rfl⟩, q⟩
theorem ca_len : CaD X (.builtin "len") gcLen where
  ex := ⟨_, call_len.or call_lenK, fun B E σ H r M O xs ds Q R ii q => by
    unfold gcLen at q
    split at q
    · obtain ⟨v, rfl, a, vs, rfl, h1, l1⟩ := isXL1 ii
      exact .inl ⟨.ref a, _, rfl, .inl ⟨vs, SqL.of h1, rfl⟩, by rw [l1.length]; exact fin_v R (.int _) q⟩
    · obtain ⟨v, rfl, a, vs, rfl, h1, l1⟩ := isXL1 ii
      exact .inl ⟨.ref a, _, rfl, .inr ⟨vs, h1, rfl⟩, by rw [l1.length]; exact fin_v R (.int _) q⟩
    · obtain ⟨v, rfl, i⟩ := isXL1 ii
      rw [is1_str i]
      exact .inl ⟨_, _, rfl, ⟨q.1, rfl⟩, fin_v R (.int _) q.2⟩
    · obtain ⟨v, rfl, a, vs, rfl, h1, l1⟩ := isXL1 ii
      exact .inr ⟨a, vs, rfl, h1, by rw [l1.len]; exact fin_v R (.int _) q⟩
    · exact q.elim⟩
  mono := fun d M Q Q' h q => by
    unfold gcLen at q ⊢
    split at q
    · exact h _ _ q
    · exact h _ _ q
    · exact ⟨q.1, h _ _ q.2⟩
    · exact h _ _ q
    · exact q.elim
/-- abs -/
def gcI1 (f : Int → D) : GC := fun ds M Q => match ds with
  | [.int i] => Q (f i) M
  | _ => False
theorem gcI1_mono {f : Int → D} : ∀ d M Q Q', (∀ d M', Q d M' → Q' d M') → gcI1 f d M Q → gcI1 f d M Q' := fun d M Q Q' h q => by
  unfold gcI1 at q ⊢
  split at q
  · exact h _ _ q
  · exact q.elim
theorem ca_abs : CaD X (.builtin "abs") (gcI1 fun i => .int (if i < 0 then -i else i)) where
  ex := ⟨_, call_abs, fun B E σ H r M O xs ds Q R ii q => by
    unfold gcI1 at q
    split at q
    · obtain ⟨v, rfl, i⟩ := isXL1 ii
      rw [is1_int i]
      exact ⟨_, rfl, fin_v R (.int _) q⟩
    · exact q.elim⟩
  mono := gcI1_mono
/-- int(n), int(flag) -/
def gcInt : GC := fun ds M Q => match ds with
  | [.int i] => Q (.int i) M
  | [.bl b] => Q (.int (if b then 1 else 0)) M
  | _ => False
theorem ca_int : CaD X (.type "int") gcInt where
  ex := ⟨_, call_int1, fun B E σ H r M O xs ds Q R ii q => by
    unfold gcInt at q
    split at q
    · obtain ⟨v, rfl, i⟩ := isXL1 ii
      rw [is1_int i]
      exact .inl ⟨_, rfl, fin_v R (.int _) q⟩
    · obtain ⟨v, rfl, i⟩ := isXL1 ii
      rw [is1_bl i]
      exact .inr ⟨_, rfl, fin_v R (.int _) q⟩
    · exact q.elim⟩
  mono := fun d M Q Q' h q => by
    unfold gcInt at q ⊢
    split at q
    · exact h _ _ q
    · exact h _ _ q
    · exact q.elim
/-- tuple(xs), list(xs) -/
def gcTuple : GC := fun ds M Q => match ds with
  | [.lst xs] => Q (.tup xs) M
  | _ => False
def gcList : GC := fun ds M Q => match ds with
  | [.lst xs] => Q (.lst xs) M
  | [.tup xs] => Q (.lst xs) M
  | _ => False
theorem ca_tuple : CaD X (.type "tuple") gcTuple where
  ex := ⟨_, call_tuple_ofF, fun B E σ H r M O xs ds Q R ii q => by
    unfold gcTuple at q
    split at q
    · obtain ⟨v, rfl, a, vs, rfl, h1, l1⟩ := isXL1 ii
      exact ⟨a, vs, rfl, .inl ⟨SqL.of h1, fin_tup R l1 q⟩⟩
    · exact q.elim⟩
  mono := fun d M Q Q' h q => by
    unfold gcTuple at q ⊢
    split at q
    · exact h _ _ q
    · exact q.elim
/-- tuple(t) of a tuple that is kept apart: itself -/
def gcTupleS : GC := fun ds M Q => match ds with
  | [.lst xs] => Q (.tup xs) M
  | [.tup xs] => Q (.tup xs) M
  | _ => False
theorem de_tupleS (hg : Gl X "tuple") (hm : X.mg "tuple" = none) (ha : DA true p X [e] gs) (he : starEach [e] X.env = (false, eval e X.env) :: starEach [] X.env := by rfl) (hpl : (backTo pos (starEach [] X.env)).any (·.1) = false := by rfl) : DE true p X (.Call (.Name "tuple" pf) [e] [] pos) (gCa gcTupleS gs) := by
  refine ⟨peI (pe_callTy call_tuple_ofF hg hm (by decide +kernel) ha.run (by decide) (by decide) he hpl) fun σ H Q ⟨B, E, r, M, O, R, q⟩ => ?_, fun r M Q Q' h q => ha.mono r M _ _ (fun ds M1 q1 => ?_) q⟩
  · refine ha.on R q fun ds M1 vs H1 O1 k1 R1 l1 i1 => ?_
    have i2 := isXL_strong i1
    unfold gcTupleS at k1
    split at k1
    · cases i2 with
      | cons i t =>
        cases t
        cases i with
        | lst h l => exact ⟨_, _, rfl, .inl ⟨SqL.of h.2, fin_tup R1 l (LE.go l1 k1)⟩⟩
    · cases i2 with
      | cons i t =>
        cases t
        cases i with
        | tup h l => exact ⟨_, _, rfl, .inr ⟨h.sq, fin_v R1 (.tup h l) (LE.go l1 k1)⟩⟩
    · exact k1.elim
  · unfold gcTupleS at q1 ⊢
    split at q1
    · exact h _ _ q1
    · exact h _ _ q1
    · exact q1.elim
/-- all, any of truths -/
def blsOf : List D → Option (List Bool)
  | [] => some []
  | .bl b :: r => (blsOf r).map (b :: ·)
  | _ => none
def intsOf : List D → Option (List Int)
  | [] => some []
  | .int b :: r => (intsOf r).map (b :: ·)
  | _ => none
theorem blsOf_map : ∀ bs : List Bool, blsOf (bs.map D.bl) = some bs
  | [] => rfl
  | b :: r => by simp [blsOf, blsOf_map r]
theorem intsOf_map : ∀ bs : List Int, intsOf (bs.map D.int) = some bs
  | [] => rfl
  | b :: r => by simp [intsOf, intsOf_map r]
theorem of_blsOf {K : PySem.W.Frag} {A : Addr → Prop} {H : Hp} : ∀ {vs : List V} {ds : List D} {bs : List Bool}, IsL K A H vs ds → blsOf ds = some bs → vs = bs.map V.bl
  | _, _, _, .nil, h => by
    cases h; rfl
  | _, d :: r, bs, .cons i l, h => by
    cases d with
    | bl b =>
      cases i
      simp only [blsOf, Option.map_eq_some_iff] at h
      obtain ⟨cs, h1, h2⟩ := h
      subst h2
      rw [of_blsOf l h1]; rfl
    | _ => simp [blsOf] at h
theorem of_intsOf {K : PySem.W.Frag} {A : Addr → Prop} {H : Hp} : ∀ {vs : List V} {ds : List D} {bs : List Int}, IsL K A H vs ds → intsOf ds = some bs → vs = bs.map V.int
  | _, _, _, .nil, h => by
    cases h; rfl
  | _, d :: r, bs, .cons i l, h => by
    cases d with
    | int b =>
      cases i
      simp only [intsOf, Option.map_eq_some_iff] at h
      obtain ⟨cs, h1, h2⟩ := h
      subst h2
      rw [of_intsOf l h1]; rfl
    | _ => simp [intsOf] at h
def gcBls (f : List Bool → Bool) : GC := fun ds M Q => match ds with
  | [.lst xs] => ∃ bs, blsOf xs = some bs ∧ Q (.bl (f bs)) M
  | _ => False
theorem gcBls_mono {f : List Bool → Bool} : ∀ d M Q Q', (∀ d M', Q d M' → Q' d M') → gcBls f d M Q → gcBls f d M Q' := fun d M Q Q' h q => by
  unfold gcBls at q ⊢
  split at q
  · obtain ⟨bs, e, q⟩ := q
    exact ⟨bs, e, h _ _ q⟩
  · exact q.elim
theorem ca_all (hc : CallR X (.builtin "all") (rAll X.K)) : CaD X (.builtin "all") (gcBls fun bs => bs.all _root_.id) where
  ex := ⟨_, hc, fun B E σ H r M O xs ds Q R ii q => by
    unfold gcBls at q
    split at q
    · obtain ⟨v, rfl, a, vs, rfl, h1, l1⟩ := isXL1 ii
      obtain ⟨bs, e, q⟩ := q
      rw [of_blsOf l1 e] at h1
      exact ⟨a, bs, rfl, SqL.of h1, fin_v R (.bl _) q⟩
    · exact q.elim⟩
  mono := gcBls_mono
/-- sum, min, max of a list of ints -/
def gcSum : GC := fun ds M Q => match ds with
  | [.lst xs] => ∃ ns, intsOf xs = some ns ∧ Q (.int ns.sum) M
  | _ => False
/-- isinstance of data and a built-in class -/
def D.tyN : D → Option String
  | .non => some "NoneType"
  | .bl _ => some "bool"
  | .int _ => some "int"
  | .str _ => some "str"
  | .tup _ => some "tuple"
  | .lst _ => some "list"
  | .dic _ => some "dict"
  | _ => none
def isTy (t : String) (c : String) : Bool := t == c || (t == "bool" && c == "int")
def gcIsi : GC := fun ds M Q => match ds with
  | [d, .ty c] => ["int", "bool", "str", "tuple", "list", "dict"].contains c = true ∧ ∃ t, d.tyN = some t ∧ Q (.bl (isTy t c)) M
  | _ => False
theorem kit_tbl : ∀ t ∈ ["NoneType", "bool", "int", "str", "tuple", "list", "dict"], ∀ c ∈ ["int", "bool", "str", "tuple", "list", "dict"], kitB t c = some (isTy t c) := by decide +kernel
theorem tyX_of {K : PySem.W.Frag} {A : Addr → Prop} {H : Hp} {v : V} {t : String} : ∀ {d : D}, Is1 K A H v d → d.tyN = some t → TyX K H v (.type t) ∧ t ∈ ["NoneType", "bool", "int", "str", "tuple", "list", "dict"]
  | .non, i, e => by cases e; rw [is1_non i]; exact ⟨.base .non, by decide⟩
  | .bl _, i, e => by cases e; rw [is1_bl i]; exact ⟨.base (.bl _), by decide⟩
  | .int _, i, e => by cases e; rw [is1_int i]; exact ⟨.base (.int _), by decide⟩
  | .str _, i, e => by cases e; rw [is1_str i]; exact ⟨.base (.str _), by decide⟩
  | .ty _, i, e => by cases e
  | .ref _, i, e => by cases e
  | .lst _, ⟨a, vs, h1, h2, h3⟩, e => by cases e; rw [h1]; exact ⟨.base (.lst h2), by decide⟩
  | .dic _, ⟨a, vs, h1, h2, h3⟩, e => by
    cases e; rw [h1]
    rcases h2 with h2 | ⟨o, h2⟩
    · exact ⟨.base (.dK h2), by decide⟩
    · exact ⟨.fDict h2, by decide⟩
  | .tup _, ⟨a, vs, h1, h2, h3⟩, e => by
    cases e; rw [h1]
    refine ⟨?_, by decide⟩
    rcases h2.sq with (h2 | ⟨o, h2⟩) | ⟨o, its, n, hk, hc, _⟩
    · exact .base (.tup h2)
    · exact .fTuple h2
    · exact .kTuple hk hc
theorem ca_isi : CaD X (.builtin "isinstance") gcIsi where
  ex := ⟨_, call_isi, fun B E σ H r M O xs ds Q R ii q => by
    unfold gcIsi at q
    split at q
    · rename_i d c
      obtain ⟨v, u, rfl, i, j⟩ := isXL2 ii
      have j : Is X.K (Av B M O) H u (.ty c) := j
      cases j
      obtain ⟨hc, t, ht, q⟩ := q
      obtain ⟨hx, hm⟩ := tyX_of i ht
      exact ⟨v, .ty c, _, _, _, rfl, .ty c, hx, kit_ty (kit_tbl t hm c (by simpa using hc)), fin_v R (.bl _) q⟩
    · exact q.elim⟩
  mono := fun d M Q Q' h q => by
    unfold gcIsi at q ⊢
    split at q
    · obtain ⟨hc, t, ht, q⟩ := q
      exact ⟨hc, t, ht, h _ _ q⟩
    · exact q.elim
end
end DL
set_option Elab.async false
set_option linter.all false
set_option maxRecDepth 100000
namespace DL
open PySem PySem.Spec PyProof.Rows L2
section
variable {X : Cx} {w w1 w2 w3 p : Bool} {a b c e : Expr} {es : List Expr} {g ga gb gc : GE} {gs : GA} {B : Addr → Prop} {E : En} {σ : L2.St} {H : Hp} {r : Fr} {M : Mem} {O : Own} {pos : Pos}
theorem IsL.at {K : PySem.W.Frag} {A : Addr → Prop} {vs : List V} {ds : List D} {i : Int} {z : D} (l : IsL K A H vs ds) (h : atI ds i = some z) : ∃ v, atI vs i = some v ∧ Is K A H v z := by
  unfold atI at h ⊢
  rw [l.length]
  cases q : ixN ds.length i with
  | none => rw [q] at h; cases h
  | some j =>
    rw [q] at h
    exact l.get (show ds[j]? = some z from h)
/-- d[k], a dict -/
def dgetK (kds : List (Key × D)) (e : D) (M : Mem) (Q : D → Mem → Prop) : Prop := ∃ k v, keyD e = some k ∧ valD kds k = some v ∧ Q v M
def rIxK : R2 := fun x y H Q => ∃ a v, x = V.ref a ∧ DGet H a y (some v) ∧ Q v H
theorem ix_dict (hu : X.A.units + 1 < cLine) : IxR X rIxK := by
  intro value slice pins s σ H x y v u Q I rx ry h hs
  obtain ⟨a, z, rfl, g, q⟩ := h
  cases rx
  exact tail_any (dict_typeIs I g) PySem.F.slot_dict_getitem.lookup (d_getItem hu I g ry fun w' s3 I3 rw' => ⟨z, H, I3, rw', q⟩) hs
def goIx : GO := fun d e M Q => match d, e with
  | .lst xs, .int i => match atI xs i with
    | some z => Q z M
    | none => False
  | .tup xs, .int i => match atI xs i with
    | some z => Q z M
    | none => False
  | .str x, .int i => x.length ≤ sizeLine ∧ match atI x.cps.toList i with
    | some c => Q (.str ⟨#[c]⟩) M
    | none => False
  | .dic kds, e => dgetK kds e M Q
  | _, _ => False
theorem goIx_mono : ∀ d e M Q Q', (∀ d M', Q d M' → Q' d M') → goIx d e M Q → goIx d e M Q' := fun d e M Q Q' h q => by
  unfold goIx at q ⊢
  split at q
  · split at q
    · exact h _ _ q
    · exact q.elim
  · split at q
    · exact h _ _ q
    · exact q.elim
  · refine ⟨q.1, ?_⟩
    have q2 := q.2
    split at q2
    · exact h _ _ q2
    · exact q2.elim
  · obtain ⟨k, v, e1, e2, q⟩ := q
    exact ⟨k, v, e1, e2, h _ _ q⟩
  · exact q.elim
theorem de_ix (hu : X.A.units + 1 < cLine) (ha : DE w1 p X a ga) (hb : DE w2 p X b gb) (hs : PlainIx b := by intro _ _; rfl) (hw : (w1 || p) = true := by first | rfl | exact Bool.or_true _) : DE true p X (.Subscript a b pos) (g2 goIx ga gb) := by
  refine ⟨peI (pe_ix (ix_seq.or (ix_dict hu)) ha.run hb.run hs) fun σ H Q ⟨B, E, r, M, O, R, q⟩ => ?_, g2_mono ha.mono hb.mono goIx_mono⟩
  refine ha.on R q fun d M1 v H1 O1 k1 R1 l1 i1 => ?_
  refine hb.on R1 k1 fun e M2 u H2 O2 k2 R2 l2 i2 => ?_
  have j1 := IsX.one (IsX.next hw l2 i1)
  have j2 := i2.one
  have fin : ∀ {z v}, LE true p X B E σ r H M O Q z M2 → Is X.K (Av B M2 O2) H2 v z → Q v H2 := fun {z v} q3 i3 => q3 v H2 O2 R2 (l1.trans l2) i3
  unfold goIx at k2
  split at k2
  · obtain ⟨a, vs, rfl, h1, l1'⟩ := j1
    rw [is1_int j2]
    split at k2
    · rename_i z hz
      obtain ⟨x, hx, ix⟩ := l1'.at hz
      exact .inl (.inl ⟨a, vs, _, x, rfl, rfl, SqL.of h1, hx, fin k2 ix⟩)
    · exact k2.elim
  · obtain ⟨a, vs, rfl, h1, l1'⟩ := j1
    rw [is1_int j2]
    split at k2
    · rename_i z hz
      obtain ⟨x, hx, ix⟩ := l1'.at hz
      exact .inl (.inr (.inl ⟨a, vs, _, x, rfl, rfl, h1, hx, fin k2 ix⟩))
    · exact k2.elim
  · rw [is1_str j1, is1_int j2]
    obtain ⟨hl, k2⟩ := k2
    split at k2
    · rename_i z hz
      exact .inl (.inr (.inr ⟨_, _, _, rfl, rfl, hl, hz, fin k2 (.str _)⟩))
    · exact k2.elim
  · obtain ⟨a, vs, rfl, h1, l1'⟩ := j1
    obtain ⟨k, z, e1, e2, k2⟩ := k2
    have := is1_key e1 j2
    subst this
    obtain ⟨x, f1, f2⟩ := (l1'.val (k := k)).1 z e2
    exact .inr ⟨a, x, rfl, .inl ⟨vs, k, h1, rfl, f1.symm⟩, fin k2 f2⟩
  · exact k2.elim
abbrev GO' := Fr → Mem → (Option Int → Mem → Prop) → Prop
structure DO (p : Bool) (X : Cx) (e : Option Expr) (g : GO') : Prop where
  run : PO X e (fun σ H Q => ∃ B E r M O, Rep X B E σ H r M O ∧ g r M (fun o M' => ∀ H' O', Rep X B E σ H' r M' O' → Rl p M O H M' O' H' → Q o H'))
  mono : ∀ r M Q Q', (∀ d M', Q d M' → Q' d M') → g r M Q → g r M Q'
theorem poI {X : Cx} {e : Option Expr} {t t' : TO} (h : PO X e t) (i : ∀ σ H Q, t' σ H Q → t σ H Q) : PO X e t' := ⟨fun pins s σ H Q I q => h.run pins s σ H Q I (i σ H Q q)⟩
def gNoP : GO' := fun _ M Q => Q none M
def gPart (g : GE) : GO' := fun r M Q => g r M fun d M1 => match d with
  | .int i => Q (some i) M1
  | _ => False
theorem do_none : DO p X none gNoP := ⟨poI po_none fun σ H Q ⟨B, E, r, M, O, R, q⟩ => q H O R Rl.refl, fun _ _ _ _ h q => h _ _ q⟩
theorem do_some (ha : DE w p X a ga) : DO p X (some a) (gPart ga) := by
  refine ⟨poI (po_some ha.run) fun σ H Q ⟨B, E, r, M, O, R, q⟩ => ?_, fun r M Q Q' h q => ha.mono r M _ _ (fun d M1 q1 => ?_) q⟩
  · refine ha.on R q fun d M1 v H1 O1 k1 R1 l1 i1 => ?_
    split at k1
    · exact ⟨_, is1_int i1.one, k1 H1 O1 R1 l1⟩
    · exact k1.elim
  · split at q1
    · exact h _ _ q1
    · exact q1.elim
theorem DO.on {o : Option Expr} {gO : GO'} (ha : DO p X o gO) (R : Rep X B E σ H r M O) {k : Option Int → Mem → Prop} (h : gO r M k) {Q : Option Int → Hp → Prop}
    (hk : ∀ d M1 H1 O1, k d M1 → Rep X B E σ H1 r M1 O1 → Rl p M O H M1 O1 H1 → Q d H1) :
    ∃ B E r M O, Rep X B E σ H r M O ∧ gO r M (fun o M' => ∀ H' O', Rep X B E σ H' r M' O' → Rl p M O H M' O' H' → Q o H') :=
  ⟨B, E, r, M, O, R, ha.mono r M _ _ (fun d M1 h1 H1 O1 R1 l1 => hk d M1 H1 O1 h1 R1 l1) h⟩
def cutD (xs : List D) (lo hi : Option Int) : List D := (xs.drop (HT.sIx xs.length 0 lo)).take (HT.sIx xs.length xs.length hi - HT.sIx xs.length 0 lo)
theorem IsL.cut {K : PySem.W.Frag} {A : Addr → Prop} {vs : List V} {ds : List D} (lo hi : Option Int) (l : IsL K A H vs ds) : IsL K A H (cutV vs lo hi) (cutD ds lo hi) := by
  unfold cutV cutD
  rw [l.length]
  exact (l.drop _).take _
/-- of lists and texts, lent ones too; of tuples that are kept apart -/
def gsSl (w : Bool) (ga : GE) (gl gh : GO') : GE := fun r M Q => ga r M fun d M1 => gl r M1 fun lo M2 => gh r M2 fun hi M3 => match d with
  | .lst xs => Q (.lst (cutD xs lo hi)) M3
  | .tup xs => w = true ∧ Q (.tup (cutD xs lo hi)) M3
  | .str x => x.length ≤ sizeLine ∧ Q (.str (cutS x lo hi)) M3
  | _ => False
theorem sIx_all (xs : List V) (lo hi : Option Int) (h : HT.sIx xs.length 0 lo = 0 ∧ HT.sIx xs.length xs.length hi = xs.length) : cutV xs lo hi = xs := by
  unfold cutV
  rw [h.1, h.2, List.drop_zero, Nat.sub_zero, List.take_length]
theorem de_sl {lo hi : Option Expr} {gl gh : GO'} {p2 : Pos} (ha : DE w p X a ga) (hl : DO p X lo gl) (hh : DO p X hi gh) (hw : (w || p) = true := by first | rfl | exact Bool.or_true _) :
    DE true p X (.Subscript a (.Slice lo hi none p2) pos) (gsSl w ga gl gh) := by
  refine ⟨peI (pe_slice (sl_list.or (sl_tupF.or sl_str)) ha.run hl.run hh.run) fun σ H Q ⟨B, E, r, M, O, R, q⟩ => ?_,
    fun r M Q Q' h q => ha.mono r M _ _ (fun d M1 q1 => hl.mono r M1 _ _ (fun lo M2 q2 => hh.mono r M2 _ _ (fun hi M3 q3 => ?_) q2) q1) q⟩
  · refine ha.on R q fun d M1 v H1 O1 k1 R1 l1 i1 => ?_
    refine hl.on R1 k1 fun lo M2 H2 O2 k2 R2 l2 => ?_
    refine hh.on R2 k2 fun hi M3 H3 O3 k3 R3 l3 => ?_
    have lz := (l1.trans l2).trans l3
    have j := IsX.next hw l3 (IsX.next hw l2 i1)
    split at k3
    · obtain ⟨a, vs, rfl, h1, l1'⟩ := j.one
      exact .inl ⟨a, vs, rfl, SqL.of h1, fin_lst R3 (l1'.cut _ _) (LE.go lz k3)⟩
    · rename_i xs
      obtain ⟨rfl, k3⟩ := k3
      have j : Is X.K (Av B M3 O3) H3 v (.tup xs) := j
      cases j with
      | @tup a vs _ h l =>
        refine .inr (.inl ⟨a, vs, rfl, h.sq, fun hz => ?_, fun _ => fin_tup R3 (l.cut _ _) (LE.go lz k3)⟩)
        have e := sIx_all vs _ _ hz
        have l2' := l.cut lo hi
        rw [e] at l2'
        exact fin_v R3 (.tup h l2') (LE.go lz k3)
    · rw [is1_str j.one]
      exact .inr (.inr ⟨_, rfl, k3.1, fin_v R3 (.str _) (LE.go lz k3.2)⟩)
    · exact k3.elim
  · split at q3
    · exact h _ _ q3
    · exact ⟨q3.1, h _ _ q3.2⟩
    · exact ⟨q3.1, h _ _ q3.2⟩
    · exact q3.elim
variable {go go' : GO}
def gCh (go go' : GO) (ga gb gc : GE) : GE := fun r M Q => ga r M fun d M1 => gb r M1 fun e M2 => go d e M2 fun z M3 => match z with
  | .bl true => gc r M3 fun f M4 => go' e f M4 Q
  | .bl false => Q (.bl false) M3
  | _ => False
theorem gCh_mono (ha : ∀ r M Q Q', (∀ d M', Q d M' → Q' d M') → ga r M Q → ga r M Q') (hb : ∀ r M Q Q', (∀ d M', Q d M' → Q' d M') → gb r M Q → gb r M Q') (hc : ∀ r M Q Q', (∀ d M', Q d M' → Q' d M') → gc r M Q → gc r M Q')
    (ho : ∀ d e M Q Q', (∀ d M', Q d M' → Q' d M') → go d e M Q → go d e M Q') (ho' : ∀ d e M Q Q', (∀ d M', Q d M' → Q' d M') → go' d e M Q → go' d e M Q') :
    ∀ r M Q Q', (∀ d M', Q d M' → Q' d M') → gCh go go' ga gb gc r M Q → gCh go go' ga gb gc r M Q' := fun r M Q Q' h q =>
  ha r M _ _ (fun d M1 q1 => hb r M1 _ _ (fun e M2 q2 => ho d e M2 _ _ (fun z M3 q3 => by
    split at q3
    · exact hc r M3 _ _ (fun f M4 q4 => ho' e f M4 _ _ h q4) q3
    · exact h _ _ q3
    · exact q3.elim) q2) q1) q
theorem de_chain {op op' : CmpOp} (ho : OpD X (compareOp op) go) (ho' : OpD X (compareOp op') go') (ha : DE true p X a ga) (hb : DE true p X b gb) (hc : DE w p X c gc) (hm : lastMarks [op, op'] [b, c] = false := by with_unfolding_all rfl) :
    DE true p X (.Compare a [op, op'] [b, c] pos) (gCh go go' ga gb gc) := by
  obtain ⟨⟨rr, h1, h2⟩, hmo⟩ := ho
  obtain ⟨⟨rr', h1', h2'⟩, hmo'⟩ := ho'
  refine ⟨peI (pe_chain h1 h1' ha.run hb.run hc.run hm) fun σ H Q ⟨B, E, r, M, O, R, q⟩ => ?_, gCh_mono ha.mono hb.mono hc.mono hmo hmo'⟩
  refine ha.on R q fun d M1 v H1 O1 k1 R1 l1 i1 => ?_
  refine hb.on R1 k1 fun e M2 u H2 O2 k2 R2 l2 i2 => ?_
  refine h2 B E σ H2 r M2 O2 v u d e _ R2 (IsX.one (IsX.next rfl l2 i1)) i2.one (hmo _ _ _ _ _ (fun z M3 q3 v3 H3 O3 R3 l3 i3 => ?_) k2)
  have i3 : Is X.K (Av B M3 O3) H3 v3 z := i3
  split at q3
  · cases i3
    refine ⟨true, rfl, ?_⟩
    rw [if_pos rfl]
    refine hc.on R3 q3 fun f M4 t H4 O4 k4 R4 l4 i4 => ?_
    exact h2' B E σ H4 r M4 O4 u t e f Q R4 (IsX.one (IsX.next (w := true) (p := p) rfl (l3.weak.trans l4) i2)) i4.one (hmo' _ _ _ _ _ (fun z' M5 q5 v5 H5 O5 R5 l5 i5 => q5 v5 H5 O5 R5 ((((l1.trans l2).trans l3.weak).trans l4).trans l5.weak) i5) k4)
  · cases i3
    refine ⟨false, rfl, ?_⟩
    rw [if_neg Bool.false_ne_true]
    exact q3 _ H3 O3 R3 ((l1.trans l2).trans l3.weak) (Is.bl _)
  · exact q3.elim
def gTru (ga : GE) : GT := fun r M Q => ga r M fun d M1 => match d with
  | .non => Q false M1
  | .bl b => Q b M1
  | .int i => Q (i != 0) M1
  | .str x => x.length ≤ sizeLine ∧ Q ((x.length : Int) != 0) M1
  | .lst xs => Q (!xs.isEmpty) M1
  | .tup xs => Q (!xs.isEmpty) M1
  | .dic xs => Q (!xs.isEmpty) M1
  | _ => False
theorem IsL.empty {K : PySem.W.Frag} {A : Addr → Prop} {vs : List V} {ds : List D} (l : IsL K A H vs ds) : vs.isEmpty = ds.isEmpty := by
  cases l <;> rfl
theorem IsK.empty {K : PySem.W.Frag} {A : Addr → Prop} {vs : List (Key × V)} {ds : List (Key × D)} (l : IsK K A H vs ds) : vs.isEmpty = ds.isEmpty := by
  cases l <;> rfl
/-- truth of any value, a dict that is never written again too -/
theorem tru_okD : TruR X (fun x H Q => ∃ k, (TruV X.K x H k ∨ ∃ p kvs, x = V.ref p ∧ Rd H p (.dK kvs) ∧ k = !kvs.isEmpty) ∧ Q k H) := by
  intro pins s σ H x v Q I rx h
  obtain ⟨k, e | ⟨p, kvs, rfl, e, rfl⟩, q⟩ := h
  · exact tru_ok pins s σ H x v Q I rx ⟨k, e, q⟩
  · cases rx
    exact d_truth I e fun s' I' => ⟨H, I', q⟩
theorem pt_truthD {ta : TE} (ha : PE X a ta) (he : ∀ whole, isTrue a X.env whole = (do let v ← whole; standAt a.pos; holding [v] (truthy v))) :
    PT X a (fun σ H Q => ta σ H fun x H' => ∃ k, (TruV X.K x H' k ∨ ∃ p kvs, x = V.ref p ∧ Rd H' p (.dK kvs) ∧ k = !kvs.isEmpty) ∧ Q k H') := by
  refine ⟨fun pins s σ H Q I h => ?_⟩
  exact isTrue_plain (thn (ha.run pins s σ H _ I h) fun v s1 ⟨x, H1, I1, r1, q1⟩ => tru_okD pins s1 σ H1 x v Q I1 r1 q1) (he _)
theorem dt_tru (ha : DE w p X a ga) (he : ∀ whole, isTrue a X.env whole = (do let v ← whole; standAt a.pos; holding [v] (truthy v)) := by intro _; rfl) : DT p X a (gTru ga) := by
  refine ⟨ptI (pt_truthD ha.run he) fun σ H Q ⟨B, E, r, M, O, R, q⟩ => ?_, fun r M Q Q' h q => ha.mono r M _ _ (fun d M1 q1 => ?_) q⟩
  · refine ha.on R q fun d M1 v H1 O1 k1 R1 l1 i1 => ?_
    have j := i1.one
    split at k1
    · rw [is1_non j]; exact ⟨_, .inl rfl, k1 H1 O1 R1 l1⟩
    · rw [is1_bl j]; exact ⟨_, .inl rfl, k1 H1 O1 R1 l1⟩
    · rw [is1_int j]; exact ⟨_, .inl rfl, k1 H1 O1 R1 l1⟩
    · rw [is1_str j]; exact ⟨_, .inl ⟨k1.1, rfl⟩, k1.2 H1 O1 R1 l1⟩
    · obtain ⟨a, vs, rfl, h1, l1'⟩ := j
      exact ⟨_, .inl (.inl ⟨vs, SqL.of h1, by rw [l1'.empty]⟩), k1 H1 O1 R1 l1⟩
    · obtain ⟨a, vs, rfl, h1, l1'⟩ := j
      exact ⟨_, .inl (.inr (.inl ⟨vs, h1, by rw [l1'.empty]⟩)), k1 H1 O1 R1 l1⟩
    · obtain ⟨a, vs, rfl, h1, l1'⟩ := j
      exact ⟨_, .inr ⟨_, vs, rfl, h1, by rw [l1'.empty]⟩, k1 H1 O1 R1 l1⟩
    · exact k1.elim
  · split at q1
    · exact h _ _ q1
    · exact h _ _ q1
    · exact h _ _ q1
    · exact ⟨q1.1, h _ _ q1.2⟩
    · exact h _ _ q1
    · exact h _ _ q1
    · exact h _ _ q1
    · exact q1.elim
end
structure DEnds where
  nx : Fr → Mem → Prop
  rt : D → Mem → Prop
  bk : Fr → Mem → Prop := fun _ _ => False
  ct : Fr → Mem → Prop := fun _ _ => False
abbrev GS := DEnds → Fr → Mem → Prop
def LS (X : Cx) (B : Addr → Prop) (E : En) (D : Ends) : DEnds where
  nx := fun r' M' => ∀ σ' H' O', Rep X B E σ' H' r' M' O' → D.nx σ' H'
  rt := fun d M' => ∀ v H' O', MemOk X.K B H' M' O' → Step E.U E.H (Mut M' O') H' → Is X.K (Av B M' O') H' v d → D.rt v H'
  bk := fun r' M' => ∀ σ' H' O', Rep X B E σ' H' r' M' O' → D.bk σ' H'
  ct := fun r' M' => ∀ σ' H' O', Rep X B E σ' H' r' M' O' → D.ct σ' H'
/-- less is wanted -/
structure DEnds.Le (D D' : DEnds) : Prop where
  nx : ∀ r M, D.nx r M → D'.nx r M
  rt : ∀ d M, D.rt d M → D'.rt d M
  bk : ∀ r M, D.bk r M → D'.bk r M
  ct : ∀ r M, D.ct r M → D'.ct r M
def MonoS (g : GS) : Prop := ∀ D D' r M, DEnds.Le D D' → g D r M → g D' r M
structure DS (X : Cx) (st : Stmt) (g : GS) : Prop where
  run : PS X st (fun D σ H => ∃ B E r M O, Rep X B E σ H r M O ∧ g (LS X B E D) r M)
  mono : MonoS g
structure DSs (X : Cx) (st : List Stmt) (g : GS) : Prop where
  run : PSs X st (fun D σ H => ∃ B E r M O, Rep X B E σ H r M O ∧ g (LS X B E D) r M)
  mono : MonoS g
theorem psI {X : Cx} {e : Stmt} {t t' : TS} (h : PS X e t) (i : ∀ D σ H, t' D σ H → t D σ H) : PS X e t' := ⟨fun pins s σ H D I q => h.run pins s σ H D I (i D σ H q)⟩
theorem pssI {X : Cx} {e : List Stmt} {t t' : TS} (h : PSs X e t) (i : ∀ D σ H, t' D σ H → t D σ H) : PSs X e t' := ⟨fun pins s σ H D I q => h.run pins s σ H D I (i D σ H q)⟩
section
variable {X : Cx} {st : Stmt} {rest : List Stmt} {g g' : GS} {e : Expr} {ge : GE} {w p : Bool} {pos : Pos} {B : Addr → Prop} {E : En} {σ : L2.St} {H : Hp} {r : Fr} {M : Mem} {O : Own}
def gNext : GS := fun D r M => D.nx r M
def gSeq (g g' : GS) : GS := fun D r M => g { D with nx := g' D } r M
theorem dss_nil : DSs X [] gNext := ⟨pssI pss_nil fun D σ H ⟨B, E, r, M, O, R, q⟩ => q σ H O R, fun D D' r M l q => l.nx _ _ q⟩
theorem dss_cons (h1 : DS X st g) (h2 : DSs X rest g') : DSs X (st :: rest) (gSeq g g') := by
  refine ⟨pssI (pss_cons h1.run h2.run) fun D σ H ⟨B, E, r, M, O, R, q⟩ => ⟨B, E, r, M, O, R, h1.mono { LS X B E D with nx := g' (LS X B E D) } _ r M ⟨fun r' M' q' σ' H' O' R' => ⟨B, E, r', M', O', R', q'⟩, fun _ _ q => q, fun _ _ q => q, fun _ _ q => q⟩ q⟩, fun D D' r M l q => ?_⟩
  exact h1.mono { D with nx := g' D } _ r M ⟨fun r' M' q' => h2.mono _ _ _ _ l q', l.rt, l.bk, l.ct⟩ q
theorem dss_one (h1 : DS X st g) : DSs X [st] g := ⟨pss_one h1.run, h1.mono⟩
def gDrop (ge : GE) : GS := fun D r M => ge r M fun _ M1 => D.nx r M1
theorem ds_expr (he : DE w p X e ge) (hs : swapsWith e none pos.line X.env = pure false := by rfl) : DS X (.Expr e pos) (gDrop ge) := by
  refine ⟨psI (ps_expr he.run hs) fun D σ H ⟨B, E, r, M, O, R, q⟩ => ?_, fun D D' r M l q => he.mono _ _ _ _ (fun d M1 q1 => l.nx _ _ q1) q⟩
  exact he.on R q fun d M1 v H1 O1 k1 R1 l1 i1 => k1 σ H1 O1 R1
def gRet (ge : GE) : GS := fun D r M => ge r M D.rt
theorem ds_ret (he : DE true p X e ge) : DS X (.Return (some e) pos) (gRet ge) := by
  refine ⟨psI (ps_ret he.run) fun D σ H ⟨B, E, r, M, O, R, q⟩ => ?_, fun D D' r M l q => he.mono _ _ _ _ (fun d M1 q1 => l.rt _ _ q1) q⟩
  exact he.on R q fun d M1 v H1 O1 k1 R1 l1 i1 => k1 v H1 O1 R1.m R1.ent i1
def gRetN : GS := fun D _ M => D.rt .non M
def gIfS (c : GT) (g g' : GS) : GS := fun D r M => c r M fun b M1 => if b = true then g D r M1 else g' D r M1
theorem ds_if {c : Expr} {a b : List Stmt} {gc : GT} (hc : DT p X c gc) (ha : DSs X a g) (hb : DSs X b g') : DS X (.If c a b pos) (gIfS gc g g') := by
  refine ⟨psI (ps_if hc.run ha.run hb.run) fun D σ H ⟨B, E, r, M, O, R, q⟩ => ?_, fun D D' r M l q => hc.mono _ _ _ _ (fun b M1 q1 => ?_) q⟩
  · refine hc.on R q fun b M1 H1 O1 k1 R1 l1 => ?_
    cases b with
    | true =>
      rw [if_pos rfl] at k1 ⊢
      exact ⟨B, E, r, M1, O1, R1, k1⟩
    | false =>
      rw [if_neg Bool.false_ne_true] at k1 ⊢
      exact ⟨B, E, r, M1, O1, R1, k1⟩
  · cases b with
    | true =>
      rw [if_pos rfl] at q1 ⊢
      exact ha.mono _ _ _ _ l q1
    | false =>
      rw [if_neg Bool.false_ne_true] at q1 ⊢
      exact hb.mono _ _ _ _ l q1
def Fr.set (r : Fr) (i : Nat) (s : Sl) : Fr := { r with sl := r.sl.set i s }
theorem Rep.setv (R : Rep X B E σ H r M O) {v : V} {d : D} (i : Nat) (h : Is X.K (Av B M O) H v d) : Rep X B E (σ.set i (some v)) H (r.set i (.v d)) M O where
  m := R.m
  len := by
    show (σ.set i (some v)).length = (r.sl.set i (.v d)).length
    rw [List.length_set, List.length_set]; exact R.len
  sl := fun j s e => by
    have e : (r.sl.set i (.v d))[j]? = some s := e
    by_cases hj : i = j
    · subst hj
      have hi : i < r.sl.length := by
        obtain ⟨h1, _⟩ := List.getElem?_eq_some_iff.mp e
        simpa using h1
      rw [List.getElem?_set_self hi] at e
      cases e
      rw [List.getElem?_set_self (by rw [R.len]; exact hi)]
      exact ⟨v, rfl, h⟩
    · rw [List.getElem?_set_ne hj] at e
      rw [List.getElem?_set_ne hj]
      exact R.sl j s e
  ent := R.ent
  sub := R.sub
  exc := R.exc
  lk := R.lk
  xe := R.xe
def gSet (i : Nat) (ge : GE) : GS := fun D r M => ge r M fun d M1 => D.nx (r.set i (.v d)) M1
theorem ds_set (i : Nat) {x : Str} {pos' : Pos} (hN : X.N.Nodup) (he : DE true p X e ge) (hi : X.N[i]? = some x := by rfl) (hx : Loc X.env.scope x := by first | exact Or.inl rfl | exact Or.inr rfl) (hs : swapsWith e (some (.Name x pos')) pos.line X.env = pure false := by rfl)
    (hf : X.fn x = true ∨ X.env.scope.names.lookup x = some .local := by first | exact .inl rfl | exact .inr rfl | assumption) : DS X (.Assign [.Name x pos'] e pos) (gSet i ge) := by
  refine ⟨psI (ps_set hN hi hx he.run hs hf) fun D σ H ⟨B, E, r, M, O, R, q⟩ => ?_, fun D D' r M l q => he.mono _ _ _ _ (fun d M1 q1 => l.nx _ _ q1) q⟩
  exact he.on R q fun d M1 v H1 O1 k1 R1 l1 i1 => k1 _ H1 O1 (R1.setv i i1)
end
end DL
set_option Elab.async false
set_option linter.all false
set_option maxRecDepth 100000
namespace DL
open PySem PySem.Spec PyProof.Rows L2
section
variable {X : Cx} {K : PySem.W.Frag} {B B' : Addr → Prop} {E : En} {σ : L2.St} {H H' : Hp} {r : Fr} {M : Mem} {O O' : Own} {p w : Bool} {a : Addr}
/-- the same heap, with other words for what may change -/
theorem step_id {A A' : Addr → Prop} (h : ∀ a, H a ≠ none → ¬ A a → ¬ A' a) : Step A H A' H := fun a o e n => ⟨e, h a (fun z => by rw [z] at e; cases e) n⟩
/-- what stands at A, H stands at A', H' -/
theorem OOk.stepS {A A' : Addr → Prop} (s : Step A H A' H') {l : Addr} (hl : ∀ o, H l = some o → H' l = some o) : ∀ {m : OM}, OOk K A H l m → OOk K A' H' l m
  | .lst _, ⟨vs, e, h⟩ => ⟨vs, hl _ e, h.step s⟩
  | .dic _, ⟨vs, e, h⟩ => ⟨vs, hl _ e, h.step s⟩
theorem FlsOk.stepS {A A' : Addr → Prop} (s : Step A H A' H') (ho : ∀ l f, O l = some (.fld a f) → O' l = some (.fld a f) ∧ ∀ o, H l = some o → H' l = some o) : ∀ {vs : List (Str × V)} {fs : List (Str × Fl)}, FlsOk K A H O a vs fs → FlsOk K A' H' O' a vs fs
  | _, _, .nil => .nil
  | _, _, .v i t => .v (i.step s) (FlsOk.stepS s ho t)
  | _, _, .o e i t => .o (ho _ _ e).1 (i.stepS s (ho _ _ e).2) (FlsOk.stepS s ho t)
theorem MOk.stepS {A A' : Addr → Prop} (s : Step A H A' H') (ha : ∀ o, H a = some o → H' a = some o) (ho : ∀ l f, O l = some (.fld a f) → O' l = some (.fld a f) ∧ ∀ o, H l = some o → H' l = some o) : ∀ {m : MO}, MOk K A H O a m → MOk K A' H' O' a m
  | .om m, x => OOk.stepS s ha x
  | .ins _ _, ⟨dx, vs, e, x⟩ => ⟨dx, vs, ha _ e, x.stepS s ho⟩
  | .st, ⟨kds, q, x⟩ => ⟨kds, q, OOk.stepS s ha x⟩
  | .ho _, e => ha _ e
  | .tab _, ⟨ps, e, t, q⟩ => ⟨ps, ha _ e, t, fun pos cv z => let ⟨c, e1, e2, n⟩ := q pos cv z; ⟨c, e1, (s c _ e2 n).1, (s c _ e2 n).2⟩⟩
theorem SlU.stepS {i : Nat} {x : Option V} {A A' U U' : Addr → Prop} (s : Step A H A' H') (s2 : Step U H U' H') : ∀ {sl : Sl}, (∀ l, O l = some (.slot i) → O' l = some (.slot i) ∧ ∀ o, H l = some o → H' l = some o) → SlU K A U O H i x sl → SlU K A' U' O' H' i x sl
  | .n, _, _ => trivial
  | .v d, _, ⟨v, e, q⟩ => ⟨v, e, q.step s⟩
  | .o m, ho, ⟨l, e, o, q⟩ => ⟨l, e, (ho l o).1, q.stepS s (ho l o).2⟩
  | .b k ds, _, ⟨l, vs, e, q, t⟩ => ⟨l, vs, e, q.step s2, t.step s⟩
  | .s ns, _, ⟨l, e, q⟩ => ⟨l, e, q.step s2⟩
  | .f l, _, ⟨e, q⟩ => ⟨e, q.trans s⟩
def Bp (B : Addr → Prop) (a : Addr) : Addr → Prop := fun b => B b ∨ b = a
theorem av_bp : Av (Bp B a) M O = fun b => Av B M O b ∨ b = a := by
  funext b
  unfold Av Bp
  apply propext
  constructor
  · rintro ((h | h) | h)
    · exact .inl (.inl h)
    · exact .inr h
    · exact .inl (.inr h)
  · rintro ((h | h) | h)
    · exact .inl (.inl h)
    · exact .inr h
    · exact .inl (.inr h)
def Up (U : Addr → Prop) (a : Addr) : Addr → Prop := fun b => U b ∨ b = a
theorem av_up : Av (Bp B a) M O = Up (Av B M O) a := av_bp
theorem step_up {A A' : Addr → Prop} (s : Step A H A' H') : Step (Up A a) H (Up A' a) H' := fun b o e n =>
  have h := s b o e fun z => n (.inl z)
  ⟨h.1, fun z => z.elim h.2 fun z => n (.inr z)⟩
theorem step_dn {A : Addr → Prop} : Step (Up A a) H A H := step_id fun b _ n z => n (.inl z)
/-- a new object at a: no one's yet -/
structure New (X : Cx) (B : Addr → Prop) (E : En) (σ : L2.St) (H : Hp) (r : Fr) (M : Mem) (O : Own) (a : Addr) : Prop where
  m : MemOk X.K (Bp B a) H M O
  len : σ.length = r.sl.length
  sl : ∀ i s, r.sl[i]? = some s → SlU X.K (Up (Av B M O) a) (Up (Mut M O) a) O H i ((σ[i]?).getD none) s
  ent : Step E.U E.H (Up (Mut M O) a) H
  sub : ∀ b, E.B b → B b
  exc : ∀ C M' H' O', MemOk X.K E.B H' M' O' → Step E.U E.H (Mut M' O') H' → E.X C M' → E.W C H'
  lk : Takes X (fun cls d _ H => xk E.W cls d H)
  xe : r.ex = E.X
  nav : ¬ Av B M O a
/-- a new object that nobody stands on -/
theorem New.of (R : Rep X B E σ H r M O) {o : HO} (n : H a = none) : New X B E σ (upd H a o) r M O a := by
  have g : ∀ {A : Addr → Prop}, Step A H (Up A a) (upd H a o) := fun {A} b u e nb => by
    have ne := ne_of_none e n
    exact ⟨by rw [upd_ne ne]; exact e, fun z => z.elim nb ne⟩
  have k : ∀ {b : Addr} (u : HO), H b = some u → upd H a o b = some u := fun u e => by rw [upd_ne (ne_of_none e n)]; exact e
  have na := R.m.fresh n
  refine ⟨⟨fun b mo e => ?_, fun b w e => ?_, fun b z => ?_⟩, R.len, fun i sl e => (R.sl i sl e).stepS g g fun l q => ⟨q, k⟩, R.ent.trans g, R.sub, R.exc, R.lk, R.xe, na⟩
  · obtain ⟨h1, h2, h3⟩ := R.m.mem b mo e
    refine ⟨fun z => z.elim h1 fun z => ?_, h2, ?_⟩
    · subst z
      exact na (.inr (.inl (by rw [e]; simp)))
    · rw [av_up]
      exact h3.stepS g k fun l f q => ⟨q, k⟩
  · obtain ⟨h1, h2⟩ := R.m.own b w e
    refine ⟨fun z => z.elim h1 fun z => ?_, fun z => h2 (Same.free (same_upd n) z)⟩
    subst z
    exact na (.inr (.inr (by rw [e]; simp)))
  · rcases z with z | z
    · exact fun q => R.m.btr b z (Same.free (same_upd n) q)
    · subst z
      rw [upd_same]
      exact fun q => nomatch q
/-- in the meantime: as if it were a caller's -/
theorem New.rep (N : New X B E σ H r M O a) : Rep X (Bp B a) E σ H r M O :=
  ⟨N.m, N.len, fun i sl e => by
    have q := N.sl i sl e
    rw [← av_up] at q
    exact q.stepS (Step.refl _ _) step_dn fun l q => ⟨q, fun _ e => e⟩, N.ent.trans step_dn, fun b z => .inl (N.sub b z), N.exc, N.lk, N.xe⟩
/-- behind an expression that was reckoned in the meantime -/
theorem New.next (N : New X B E σ H r M O a) {M' : Mem} {l : Rl p M O H M' O' H'} (R : Rep X (Bp B a) E σ H' r M' O') (ha : H a ≠ none) : New X B E σ H' r M' O' a := by
  have nav : ¬ Av B M' O' a := fun z => by
    rcases z with z | z
    · exact N.nav (.inl z)
    · cases e : H a with
      | none => exact ha e
      | some o => exact (l.2 a o e fun q => N.nav (.inr q)).2 z
  have sA : Step (Up (Av B M O) a) H (Up (Av B M' O') a) H' := step_up l.avs
  have sU : Step (Up (Mut M O) a) H (Up (Mut M' O') a) H' := step_up l.2
  refine ⟨R.m, R.len, fun i sl e => ?_, N.ent.trans sU, N.sub, N.exc, N.lk, N.xe, nav⟩
  have q := N.sl i sl e
  have q' : SlU X.K (Av (Bp B a) M' O') (Mut M' O') O' H' i ((σ[i]?).getD none) sl := R.sl i sl e
  rw [av_up] at q'
  cases sl with
  | n => trivial
  | v d => exact q'
  | o m => exact q'
  | b k ds =>
    obtain ⟨a, vs, e1, e2, e3⟩ := q
    exact ⟨a, vs, e1, e2.step sU, e3.step sA⟩
  | s ns =>
    obtain ⟨a, e1, e2⟩ := q
    exact ⟨a, e1, e2.step sU⟩
  | f l => exact ⟨q.1, q.2.trans sA⟩
/-- a is no one's -/
theorem New.any (N : New X B E σ H r M O a) : Rep X B E σ H r M O := by
  have s : Step (Up (Av B M O) a) H (Av B M O) H := step_dn
  refine ⟨⟨fun b mo e => ?_, fun b w e => ?_, fun b z => N.m.btr b (.inl z)⟩, N.len, fun i sl e => (N.sl i sl e).stepS s step_dn fun l q => ⟨q, fun _ e => e⟩, N.ent.trans step_dn, N.sub, N.exc, N.lk, N.xe⟩
  · obtain ⟨h1, h2, h3⟩ := N.m.mem b mo e
    rw [av_up] at h3
    exact ⟨fun z => h1 (.inl z), h2, h3.stepS s (fun _ e => e) fun l f q => ⟨q, fun _ e => e⟩⟩
  · obtain ⟨h1, h2⟩ := N.m.own b w e
    exact ⟨fun z => h1 (.inl z), h2⟩
def OM.d : OM → D
  | .lst ds => .lst ds
  | .dic ds => .dic ds
/-- .. and it is data -/
theorem New.is (N : New X B E σ H r M O a) {ds : List D} : OOk X.K (Up (Av B M O) a) H a (.lst ds) → Is X.K (Av B M O) H (.ref a) (.lst ds)
  | ⟨vs, e, l⟩ => .lst ⟨N.nav, e⟩ (l.step step_dn)
/-- a is the i-th slot's own -/
def osl (O : Own) (a : Addr) (i : Nat) : Own := fun b => if b = a then some (.slot i) else O b
theorem osl_same {i : Nat} : osl O a i a = some (.slot i) := by unfold osl; rw [if_pos rfl]
theorem osl_ne {i : Nat} {b : Addr} (h : b ≠ a) : osl O a i b = O b := by unfold osl; rw [if_neg h]
theorem mut_osl {i : Nat} : Mut M (osl O a i) = Up (Mut M O) a := by
  funext b
  apply propext
  unfold Mut osl Up
  by_cases h : b = a
  · simp [h, Mut]
  · simp [h, Mut]
theorem av_osl {i : Nat} : Av B M (osl O a i) = Up (Av B M O) a := by
  funext b
  apply propext
  unfold Av
  rw [mut_osl]
  show (B b ∨ Mut M O b ∨ b = a) ↔ ((B b ∨ Mut M O b) ∨ b = a)
  constructor
  · rintro (h | h | h)
    · exact .inl (.inl h)
    · exact .inl (.inr h)
    · exact .inr h
  · rintro ((h | h) | h)
    · exact .inl h
    · exact .inr (.inl h)
    · exact .inr (.inr h)
theorem OOk.there' {A : Addr → Prop} {m : OM} (h : OOk K A H a m) : H a ≠ none := by
  cases m with
  | lst ds => obtain ⟨vs, e, _⟩ := h; rw [e]; exact fun z => nomatch z
  | dic ds => obtain ⟨vs, e, _⟩ := h; rw [e]; exact fun z => nomatch z
theorem New.toSlot (N : New X B E σ H r M O a) (i : Nat) {m : OM} (hm : OOk X.K (Up (Av B M O) a) H a m) : Rep X B E (σ.set i (some (.ref a))) H (r.set i (.o m)) M (osl O a i) := by
  have nO : O a = none := by
    cases e : O a with
    | none => rfl
    | some w => exact (N.nav (.inr (.inr (by rw [e]; simp)))).elim
  have nM : M a = none := by
    cases e : M a with
    | none => rfl
    | some w => exact (N.nav (.inr (.inl (by rw [e]; simp)))).elim
  have hob : ∀ {b : Addr} {w : Ow}, O b = some w → osl O a i b = some w := fun {b w} e => by
    rw [osl_ne (fun z => by subst z; rw [nO] at e; cases e)]; exact e
  refine ⟨⟨fun b mo e => ?_, fun b w e => ?_, fun b z => N.m.btr b (.inl z)⟩, ?_, fun j sl e => ?_, ?_, N.sub, N.exc, N.lk, N.xe⟩
  · obtain ⟨h1, h2, h3⟩ := N.m.mem b mo e
    have nb : b ≠ a := fun z => by subst z; rw [nM] at e; cases e
    rw [av_up] at h3
    rw [av_osl, osl_ne nb]
    exact ⟨fun z => h1 (.inl z), h2, h3.stepS (Step.refl _ _) (fun _ e => e) fun l f q => ⟨hob q, fun _ e => e⟩⟩
  · by_cases hb : b = a
    · subst hb
      exact ⟨fun z => N.nav (.inl z), hm.there'⟩
    · rw [osl_ne hb] at e
      obtain ⟨h1, h2⟩ := N.m.own b w e
      exact ⟨fun z => h1 (.inl z), h2⟩
  · show (σ.set i _).length = (r.sl.set i _).length
    rw [List.length_set, List.length_set]; exact N.len
  · have e : (r.sl.set i (.o m))[j]? = some sl := e
    show SlU X.K (Av B M (osl O a i)) (Mut M (osl O a i)) (osl O a i) H j _ sl
    rw [av_osl, mut_osl]
    by_cases hj : i = j
    · subst hj
      have hi : i < r.sl.length := by
        obtain ⟨h1, _⟩ := List.getElem?_eq_some_iff.mp e
        simpa using h1
      rw [List.getElem?_set_self hi] at e
      cases e
      rw [List.getElem?_set_self (by rw [N.len]; exact hi)]
      exact ⟨a, rfl, osl_same, hm⟩
    · rw [List.getElem?_set_ne hj] at e
      rw [List.getElem?_set_ne hj]
      exact (N.sl j sl e).stepS (Step.refl _ _) (Step.refl _ _) fun l q => ⟨hob q, fun _ e => e⟩
  · rw [mut_osl]; exact N.ent
end
end DL
set_option Elab.async false
set_option linter.all false
set_option maxRecDepth 100000
namespace DL
open PySem PySem.Spec PyProof.Rows L2
abbrev GF := Fr → Mem → (OM → Mem → Prop) → Prop
structure DF (p : Bool) (X : Cx) (e : Expr) (g : GF) : Prop where
  run : PE X e (fun σ H Q => ∃ B E r M O, Rep X B E σ H r M O ∧ g r M (fun m M' => ∀ a H' O', New X B E σ H' r M' O' a → Rl p M O H M' O' H' → OOk X.K (Up (Av B M' O') a) H' a m → Q (.ref a) H'))
  mono : ∀ r M Q Q', (∀ d M', Q d M' → Q' d M') → g r M Q → g r M Q'
section
variable {X : Cx} {w p : Bool} {e : Expr} {es : List Expr} {g ga : GE} {gf : GF} {gs : GA} {B : Addr → Prop} {E : En} {σ : L2.St} {H : Hp} {r : Fr} {M : Mem} {O : Own} {pos : Pos}
theorem DF.on (ha : DF p X e gf) (R : Rep X B E σ H r M O) {k : OM → Mem → Prop} (h : gf r M k) {Q : VK}
    (hk : ∀ m M1 a H1 O1, k m M1 → New X B E σ H1 r M1 O1 a → Rl p M O H M1 O1 H1 → OOk X.K (Up (Av B M1 O1) a) H1 a m → Q (.ref a) H1) :
    ∃ B E r M O, Rep X B E σ H r M O ∧ gf r M (fun m M' => ∀ a H' O', New X B E σ H' r M' O' a → Rl p M O H M' O' H' → OOk X.K (Up (Av B M' O') a) H' a m → Q (.ref a) H') :=
  ⟨B, E, r, M, O, R, ha.mono r M _ _ (fun d M1 h1 v H1 O1 R1 l1 i1 => hk d M1 v H1 O1 h1 R1 l1 i1) h⟩
def gFd (gf : GF) : GE := fun r M Q => gf r M fun m M1 => match m with
  | .lst ds => Q (.lst ds) M1
  | .dic _ => False
/-- as data -/
theorem DF.de (h : DF p X e gf) : DE true p X e (gFd gf) :=
  ⟨peI h.run fun σ H Q ⟨B, E, r, M, O, R, q⟩ => h.on R q fun m M1 a H1 O1 k1 N1 l1 i1 => by
    cases m with
    | lst ds => exact k1 _ H1 O1 N1.any l1 (N1.is i1)
    | dic ds => exact k1.elim, fun r M Q Q' hh q => h.mono r M _ _ (fun m M1 q1 => by
    cases m with
    | lst ds => exact hh _ _ q1
    | dic ds => exact q1) q⟩
def gFl (gs : GA) : GF := fun r M Q => gs r M fun ds M1 => Q (.lst ds) M1
theorem new_lst (R : Rep X B E σ H r M O) {vs : List V} {ds : List D} (l : IsL X.K (Av B M O) H vs ds) {a : Addr} (n : H a = none) : New X B E σ (upd H a (.lst vs)) r M O a ∧ OOk X.K (Up (Av B M O) a) (upd H a (.lst vs)) a (.lst ds) :=
  ⟨New.of R n, vs, upd_same, l.step fun b u e nb => by
    have ne := ne_of_none e n
    exact ⟨by rw [upd_ne ne]; exact e, fun z => z.elim nb ne⟩⟩
theorem df_lst {n : Nat} (hs : DAn true p X n es gs) (hn : n ≤ sizeLine := by decide) : DF p X (.List es pos) (gFl gs) := by
  refine ⟨peI (pe_lst hs.da.run) fun σ H Q ⟨B, E, r, M, O, R, q⟩ => ?_, fun r M Q Q' h q => hs.da.mono r M _ _ (fun ds M1 q1 => h _ _ q1) q⟩
  refine hs.da.on R (hs.z hn _ _ _ q) fun ds M1 vs H1 O1 k1 R1 l1 i1 => ?_
  have i2 := isXL_strong i1
  refine ⟨by rw [i2.length]; exact k1.1, fun a n => ?_⟩
  obtain ⟨N, q⟩ := new_lst R1 i2 n
  exact k1.2 a _ O1 N (l1.trans (Rl.of_same (same_upd n))) q
/-- list(x), x a list or a tuple -/
def gFlist (ga : GE) : GF := fun r M Q => ga r M fun d M1 => match d with
  | .lst xs => Q (.lst xs) M1
  | .tup xs => Q (.lst xs) M1
  | .dic kds => Q (.lst (kds.map fun kv => kD kv.1)) M1
  | _ => False
theorem df_list {pf : Pos} (hc : X.calm = true) (ha : DE w p X e ga) (hg : Gl X "list") (hm : X.mg "list" = none) (hst : starEach [e] X.env = (false, eval e X.env) :: starEach [] X.env := by rfl) (hpl : (backTo pos (starEach [] X.env)).any (·.1) = false := by rfl) :
    DF p X (.Call (.Name "list" pf) [e] [] pos) (gFlist ga) := by
  refine ⟨peI (pe_callTy (call_list_of.or (call_listD hc)) hg hm (by decide +kernel) (da_one ha hst).run (by decide) (by decide) hst hpl) fun σ H Q ⟨B, E, r, M, O, R, q⟩ => ?_, fun r M Q Q' h q => ha.mono r M _ _ (fun d M1 q1 => ?_) q⟩
  · have hda := da_one (w := w) ha hst
    refine hda.on R (k := fun ds M1 => match ds with
      | [.lst xs] => ∀ a H' O', New X B E σ H' r M1 O' a → Rl p M O H M1 O' H' → OOk X.K (Up (Av B M1 O') a) H' a (.lst xs) → Q (.ref a) H'
      | [.tup xs] => ∀ a H' O', New X B E σ H' r M1 O' a → Rl p M O H M1 O' H' → OOk X.K (Up (Av B M1 O') a) H' a (.lst xs) → Q (.ref a) H'
      | [.dic kds] => ∀ a H' O', New X B E σ H' r M1 O' a → Rl p M O H M1 O' H' → OOk X.K (Up (Av B M1 O') a) H' a (.lst (kds.map fun kv => kD kv.1)) → Q (.ref a) H'
      | _ => False) (ha.mono r M _ _ (fun d M1 q1 => ?_) q) fun ds M1 vs H1 O1 k1 R1 l1 i1 => ?_
    · cases d with
      | lst xs => exact q1
      | tup xs => exact q1
      | dic xs => exact q1
      | _ => exact q1.elim
    · have i2 := isXL_weak i1
      split at k1
      · obtain ⟨v, rfl, a, vs, rfl, h1, l2⟩ := isXL1 i2
        refine .inl ⟨a, vs, rfl, .inl (SqL.of h1), fun b n => ?_⟩
        obtain ⟨N, q⟩ := new_lst R1 l2 n
        exact k1 b _ O1 N (l1.trans (Rl.of_same (same_upd n))) q
      · obtain ⟨v, rfl, a, vs, rfl, h1, l2⟩ := isXL1 i2
        refine .inl ⟨a, vs, rfl, .inr h1, fun b n => ?_⟩
        obtain ⟨N, q⟩ := new_lst R1 l2 n
        exact k1 b _ O1 N (l1.trans (Rl.of_same (same_upd n))) q
      · obtain ⟨v, rfl, a, vs, rfl, h1, l2⟩ := isXL1 i2
        refine .inr ⟨a, vs, rfl, h1, fun b n => ?_⟩
        obtain ⟨N, q⟩ := new_lst R1 l2.keys n
        exact k1 b _ O1 N (l1.trans (Rl.of_same (same_upd n))) q
      · exact k1.elim
  · cases d with
    | lst xs => exact h _ _ q1
    | tup xs => exact h _ _ q1
    | dic xs => exact h _ _ q1
    | _ => exact q1.elim
def gOwn (i : Nat) (gf : GF) : GS := fun D r M => gf r M fun m M1 => D.nx (r.set i (.o m)) M1
theorem ds_own (i : Nat) {x : Str} {pos' : Pos} (hN : X.N.Nodup) (he : DF p X e gf) (hi : X.N[i]? = some x := by rfl) (hx : Loc X.env.scope x := by first | exact Or.inl rfl | exact Or.inr rfl) (hs : swapsWith e (some (.Name x pos')) pos.line X.env = pure false := by rfl)
    (hf : X.fn x = true ∨ X.env.scope.names.lookup x = some .local := by first | exact .inl rfl | exact .inr rfl | assumption) : DS X (.Assign [.Name x pos'] e pos) (gOwn i gf) := by
  refine ⟨psI (ps_set hN hi hx he.run hs hf) fun D σ H ⟨B, E, r, M, O, R, q⟩ => ?_, fun D D' r M l q => he.mono _ _ _ _ (fun d M1 q1 => l.nx _ _ q1) q⟩
  exact he.on R q (Q := fun x H1 => D.nx (σ.set i (some x)) H1) fun m M1 a H1 O1 k1 N1 l1 i1 => k1 _ H1 _ (N1.toSlot i i1)
/-- an own list is written: it alone changes -/
theorem Rep.mutO (R : Rep X B E σ H r M O) {i : Nat} {a : Addr} {m m' : OM} {u : HO} (hr : r.sl[i]? = some (.o m)) (hs : σ[i]? = some (some (.ref a))) (ha : O a = some (.slot i)) (hu : OOk X.K (Av B M O) (upd H a u) a m') :
    Rep X B E σ (upd H a u) (r.set i (.o m')) M O := by
  have mA : Mut M O a := .inr (by rw [ha]; simp)
  have keep : ∀ {b : Addr} {o : HO}, b ≠ a → H b = some o → upd H a u b = some o := fun {b o} h e => by rw [upd_ne h]; exact e
  have s : ∀ {A : Addr → Prop}, A a → Step A H A (upd H a u) := fun hA b o e nb => ⟨keep (fun z => nb (by rw [z]; exact hA)) e, nb⟩
  refine ⟨⟨fun b mo e => ?_, fun b w e => ?_, fun b z => ?_⟩, ?_, fun j sl e => ?_, R.ent.trans (s mA), R.sub, R.exc, R.lk, R.xe⟩
  · obtain ⟨h1, h2, h3⟩ := R.m.mem b mo e
    have nb : b ≠ a := fun z => by subst z; rw [ha] at h2; cases h2
    refine ⟨h1, h2, h3.stepS (s (.inr mA)) (fun o e => keep nb e) fun l f q => ⟨q, fun o e => keep (fun z => ?_) e⟩⟩
    subst z
    rw [ha] at q
    cases q
  · obtain ⟨h1, h2⟩ := R.m.own b w e
    refine ⟨h1, fun z => h2 ?_⟩
    by_cases hb : b = a
    · subst hb; rw [upd_same] at z; cases z
    · rw [upd_ne hb] at z; exact z
  · have q := R.m.btr b z
    by_cases hb : b = a
    · subst hb; rw [upd_same]; exact fun z => nomatch z
    · rw [upd_ne hb]; exact q
  · show σ.length = (r.sl.set i _).length
    rw [List.length_set]; exact R.len
  · have e : (r.sl.set i (.o m'))[j]? = some sl := e
    by_cases hj : i = j
    · subst hj
      have hi : i < r.sl.length := (List.getElem?_eq_some_iff.mp hr).1
      rw [List.getElem?_set_self hi] at e
      cases e
      rw [hs]
      exact ⟨a, rfl, ha, hu⟩
    · rw [List.getElem?_set_ne hj] at e
      refine (R.sl j sl e).stepS (s (.inr mA)) (s mA) fun l q => ⟨q, fun o e => keep (fun z => ?_) e⟩
      subst z
      rw [ha] at q
      cases q
      exact hj rfl
def gApp (i : Nat) (ge : GE) : GS := fun D r M => match r.sl[i]? with
  | some (.o (.lst ds)) => ge r M fun d M1 => ds.length < sizeLine ∧ D.nx (r.set i (.o (.lst (ds ++ [d])))) M1
  | _ => False
theorem ds_app (i : Nat) {x : Str} {px apos cpos : Pos} (he : DE true p X e ge) (hN : X.N[i]? = some x := by rfl) (hv : Vis X.env.scope x := by first | exact Or.inl rfl | exact Or.inr (Or.inl rfl) | exact Or.inr (Or.inr rfl)) (hd : (x == ("__debug__" : Str)) = false := by decide)
    (hcd : (x == ("__classdict__" : Str)) = false := by decide)
    (hbase : attributeBase (.Name x px) "append" X.env (eval (.Name x px) X.env) = eval (.Name x px) X.env := by rfl)
    (hfew : ((backTo cpos (starEach [e] X.env)).all (fun x => !x.1) && (backToKw cpos (keywordEach [] X.env)).all (fun x => x.1.isSome)
      && decide ([e].length + ([] : List Keyword).length + (if ([] : List Keyword).isEmpty then 0 else 1) < 30)) = true := by rfl)
    (hline : (apos.endLine == cpos.line) = true := by rfl) (hs : starEach [e] X.env = (false, eval e X.env) :: starEach [] X.env := by rfl) (hplain : (backTo cpos (starEach [] X.env)).any (·.1) = false := by rfl)
    (hsw : swapsWith (.Call (.Attribute (.Name x px) "append" apos) [e] [] cpos) none pos.line X.env = pure false := by rfl) :
    DS X (.Expr (.Call (.Attribute (.Name x px) "append" apos) [e] [] cpos) pos) (gApp i ge) := by
  have he' := da_one (w := true) he hs
  refine ⟨psI (ps_expr (pe_bm PySem.F.plainAttrs_list PySem.F.slot_list_append PySem.F.type_list_append mt_append (pe_var (pos := px) hN hv hd hcd) he'.run hbase hfew hline hs hplain) hsw) fun D σ H ⟨B, E, r, M, O, R, q⟩ => ?_, fun D D' r M l q => ?_⟩
  · unfold gApp at q
    split at q
    · rename_i ds er
      obtain ⟨x, e1, a, e2, ha, vs, e3, l3⟩ := R.slot er
      subst e2
      refine ⟨.ref a, e1, .inl ⟨rfl, vs, SqL.of e3⟩, ?_⟩
      refine he'.on R (k := fun zs M1 => ∃ d, zs = [d] ∧ ds.length < sizeLine ∧ (LS X B E D).nx (r.set i (.o (.lst (ds ++ [d])))) M1) (he.mono _ _ _ _ (fun d M1 q1 => ⟨d, rfl, q1⟩) q) fun zs M1 us H1 O1 k1 R1 l1 i1 => ?_
      obtain ⟨d, rfl, hz, k1⟩ := k1
      have i2 := isXL_strong i1
      cases i2 with
      | @cons v _ us' _ i3 t =>
        cases t
        obtain ⟨x', f1, a', f2, ha', vs', f3, l3'⟩ := R1.slot er
        rw [e1] at f1
        cases f1
        have f2 : some (V.ref a) = some (V.ref a') := f2
        cases f2
        refine ⟨a, vs', v, rfl, rfl, f3, by rw [l3'.length]; exact hz, ?_⟩
        refine k1 σ _ O1 (R1.mutO er e1 ha' ⟨vs' ++ [v], upd_same, ?_⟩)
        have s : Step (Av B M1 O1) H1 (Av B M1 O1) (upd H1 a (.lst (vs' ++ [v]))) := fun b o eb nb => ⟨by
          rw [upd_ne (fun z => nb (by rw [z]; exact .inr (.inr (by rw [ha']; simp))))]; exact eb, nb⟩
        exact (l3'.append (.cons i3 .nil)).step s
    · exact q.elim
  · unfold gApp at q ⊢
    split at q
    · exact he.mono _ _ _ _ (fun d M1 q1 => ⟨q1.1, l.nx _ _ q1.2⟩) q
    · exact q.elim
/-- from here on it is data -/
def frz (i : Nat) (r : Fr) : Fr := match r.sl[i]? with
  | some (.o m) => r.set i (.v m.d)
  | _ => r
def gFrz (i : Nat) (g : GS) : GS := fun D r M => g D (frz i r) M
def unown (O : Own) (a : Addr) : Own := fun b => if b = a then none else O b
theorem Rep.frzG (R : Rep X B E σ H r M O) {i : Nat} {m : OM} {a : Addr} {H' : Hp} (er : r.sl[i]? = some (.o m)) (e1 : σ[i]? = some (some (.ref a))) (ha : O a = some (.slot i))
    (hk : ∀ b o, b ≠ a → H b = some o → H' b = some o) (hn : H' a ≠ none) (hi : ∀ A', ¬ A' a → Step (Av B M O) H A' H' → Is X.K A' H' (.ref a) m.d) : Rep X B E σ H' (r.set i (.v m.d)) M (unown O a) := by
  have mA : Mut M O a := .inr (by rw [ha]; simp)
  have le : ∀ b, Mut M (unown O a) b → Mut M O b := fun b z => by
    rcases z with z | z
    · exact .inl z
    · unfold unown at z
      by_cases hb : b = a
      · rw [if_pos hb] at z; exact absurd rfl z
      · rw [if_neg hb] at z; exact .inr z
  have leA : ∀ b, Av B M (unown O a) b → Av B M O b := fun b z => z.elim .inl fun z => .inr (le b z)
  have s : Step (Av B M O) H (Av B M (unown O a)) H' := fun b o e n => ⟨hk b o (fun z => n (by rw [z]; exact .inr mA)) e, fun z => n (leA b z)⟩
  have sU : Step (Mut M O) H (Mut M (unown O a)) H' := fun b o e n => ⟨hk b o (fun z => n (by rw [z]; exact mA)) e, fun z => n (le b z)⟩
  have hun : ∀ {b : Addr} {w : Ow}, b ≠ a → O b = some w → unown O a b = some w := fun hb e => by unfold unown; rw [if_neg hb]; exact e
  have nB := (R.m.own a _ ha).1
  have nM : M a = none := by
    cases e : M a with
    | none => rfl
    | some mo => have := (R.m.mem a mo e).2.1; rw [ha] at this; cases this
  have nAv : ¬ Av B M (unown O a) a := fun z => by
    rcases z with z | z | z
    · exact nB z
    · exact z nM
    · unfold unown at z; rw [if_pos rfl] at z; exact absurd rfl z
  refine ⟨⟨fun b mo e => ?_, fun b w e => ?_, fun b z => ?_⟩, ?_, fun j sl e => ?_, R.ent.trans sU, R.sub, R.exc, R.lk, R.xe⟩
  · obtain ⟨h1, h2, h3⟩ := R.m.mem b mo e
    have nb : b ≠ a := fun z => by rw [z, nM] at e; cases e
    refine ⟨h1, ?_, h3.stepS s (fun o e => hk b o nb e) fun l f q => ?_⟩
    · unfold unown
      split
      · rfl
      · exact h2
    · have nl : l ≠ a := fun z => by rw [z, ha] at q; cases q
      exact ⟨hun nl q, fun o e => hk l o nl e⟩
  · unfold unown at e
    split at e
    · cases e
    · rename_i nb
      obtain ⟨g1, g2⟩ := R.m.own b w e
      refine ⟨g1, fun z => ?_⟩
      cases eb : H b with
      | none => exact g2 eb
      | some o => rw [hk b o nb eb] at z; cases z
  · intro q
    by_cases hb : b = a
    · rw [hb] at q; exact hn q
    · cases eb : H b with
      | none => exact R.m.btr b z eb
      | some o => rw [hk b o hb eb] at q; cases q
  · show σ.length = (r.sl.set i _).length
    rw [List.length_set]; exact R.len
  · have e : (r.sl.set i (.v m.d))[j]? = some sl := e
    by_cases hj : i = j
    · subst hj
      have hi' : i < r.sl.length := (List.getElem?_eq_some_iff.mp er).1
      rw [List.getElem?_set_self hi'] at e
      cases e
      rw [e1]
      exact ⟨.ref a, rfl, hi _ nAv s⟩
    · rw [List.getElem?_set_ne hj] at e
      refine (R.sl j sl e).stepS s sU fun l q => ?_
      have nl : l ≠ a := fun z => by rw [z, ha] at q; cases q; exact hj rfl
      exact ⟨hun nl q, fun o e => hk l o nl e⟩
/-- a dict is never written again from here on -/
theorem pss_fz {rest : List Stmt} {t : TS} (h : PSs X rest t) : PSs X rest (fun D σ H => t D σ H ∨ ∃ a kvs, H a = some (.dK kvs) ∧ ∀ o, t D σ (upd H a (.frz o (.dK kvs)))) :=
  ⟨fun pins s σ H D I q => by
    rcases q with q | ⟨a, kvs, e, q⟩
    · exact h.run pins s σ H D I q
    · obtain ⟨o, I2⟩ := I.lock e (by trivial)
      exact h.run pins s σ _ D I2 (q o)⟩
theorem dss_frz (i : Nat) {rest : List Stmt} {g : GS} (h : DSs X rest g) : DSs X rest (gFrz i g) := by
  refine ⟨pssI (pss_fz h.run) fun D σ H ⟨B, E, r, M, O, R, q⟩ => ?_, fun D D' r M l q => h.mono _ _ _ _ l q⟩
  unfold gFrz DL.frz at q
  split at q
  · rename_i m er
    obtain ⟨x, e1, a, e2, ha, hm⟩ := R.slot er
    subst e2
    cases m with
    | lst ds =>
      obtain ⟨vs, h1, h2⟩ := hm
      exact .inl ⟨B, E, _, M, _, R.frzG er e1 ha (fun b o _ e => e) (by rw [h1]; simp) (fun A' nA s => .lst ⟨nA, h1⟩ (h2.step s)), q⟩
    | dic ds =>
      obtain ⟨kvs, h1, h2⟩ := hm
      exact .inr ⟨a, kvs, h1, fun o => ⟨B, E, _, M, _, R.frzG er e1 ha (fun b o' nb e => by rw [upd_ne nb]; exact e) (by rw [upd_same]; simp) (fun A' nA s => .dic ⟨nA, o, upd_same⟩ (h2.step s)), q⟩⟩
  · exact .inl ⟨B, E, r, M, O, R, q⟩
end
end DL
set_option Elab.async false
set_option linter.all false
set_option maxRecDepth 100000
namespace DL
open PySem PySem.Spec PyProof.Rows L2
abbrev GG := D → Fr → Mem → (Fr → Mem → Prop) → Prop
abbrev GGs := List D → Fr → Mem → (Fr → Mem → Prop) → Prop
theorem pgI {X : Cx} {e : Expr} {t t' : TG} (h : PG X e t) (i : ∀ v σ H Q, t' v σ H Q → t v σ H Q) : PG X e t' := ⟨fun pins s σ H v u Q I r q => h.run pins s σ H v u Q I r (i v σ H Q q)⟩
theorem pgsI {X : Cx} {e : List Expr} {t t' : TGs} (h : PGs X e t) (i : ∀ v σ H Q, t' v σ H Q → t v σ H Q) : PGs X e t' := ⟨fun pins s σ H v u Q I r q => h.run pins s σ H v u Q I r (i v σ H Q q)⟩
def gtN (i : Nat) : GG := fun d r M Q => Q (r.set i (.v d)) M
def gtNil : GGs := fun ds r M Q => ds = [] ∧ Q r M
def gtCons (g : GG) (gs : GGs) : GGs := fun ds r M Q => match ds with
  | d :: r' => g d r M fun r1 M1 => gs r' r1 M1 Q
  | [] => False
/-- but for the slots at ws nothing is stored -/
def Out (ws : List Nat) (σ σ' : L2.St) : Prop := σ'.length = σ.length ∧ ∀ j, j ∉ ws → σ'[j]? = σ[j]?
theorem Out.trans {ws ws' : List Nat} {σ σ' σ'' : L2.St} (a : Out ws σ σ') (b : Out ws' σ' σ'') : Out (ws ++ ws') σ σ'' :=
  ⟨b.1.trans a.1, fun j h => (b.2 j fun z => h (List.mem_append_right _ z)).trans (a.2 j fun z => h (List.mem_append_left _ z))⟩
structure DGp (X : Cx) (t : Expr) (ws : List Nat) (g : GG) : Prop where
  run : PG X t (fun v σ H Q => ∃ B E r M O d, Rep X B E σ H r M O ∧ Is X.K (Av B M O) H v d ∧ g d r M fun r' M' => M' = M ∧ ∀ σ', Out ws σ σ' → Rep X B E σ' H r' M O → Q σ' H)
  mono : ∀ d r M Q Q', (∀ r' M', Q r' M' → Q' r' M') → g d r M Q → g d r M Q'
structure DGsp (X : Cx) (t : List Expr) (ws : List Nat) (g : GGs) : Prop where
  run : PGs X t (fun vs σ H Q => ∃ B E r M O ds, Rep X B E σ H r M O ∧ IsL X.K (Av B M O) H vs ds ∧ g ds r M fun r' M' => M' = M ∧ ∀ σ', Out ws σ σ' → Rep X B E σ' H r' M O → Q σ' H)
  mono : ∀ d r M Q Q', (∀ r' M', Q r' M' → Q' r' M') → g d r M Q → g d r M Q'
/-- M stays, and the slots but for those at ws -/
def SameM (ws : List Nat) (g : GG) : Prop := ∀ d r M Q, g d r M Q → g d r M fun r' M' => (M' = M ∧ ∀ j, j ∉ ws → r'.sl[j]? = r.sl[j]?) ∧ Q r' M'
def SameMs (ws : List Nat) (g : GGs) : Prop := ∀ d r M Q, g d r M Q → g d r M fun r' M' => (M' = M ∧ ∀ j, j ∉ ws → r'.sl[j]? = r.sl[j]?) ∧ Q r' M'
structure DT' (X : Cx) (t : Expr) (ws : List Nat) (g : GG) : Prop where
  p : DGp X t ws g
  s : SameM ws g
structure DTs' (X : Cx) (t : List Expr) (ws : List Nat) (g : GGs) : Prop where
  p : DGsp X t ws g
  s : SameMs ws g
section
variable {X : Cx} {w p : Bool} {e t : Expr} {es : List Expr} {g ga ge : GE} {gf : GF} {gs : GA} {gt : GG} {gts : GGs} {B : Addr → Prop} {E : En} {σ : L2.St} {H : Hp} {r : Fr} {M : Mem} {O : Own} {pos : Pos}
theorem dt_name (i : Nat) {x : Str} (hN : X.N.Nodup) (hi : X.N[i]? = some x := by rfl) (hx : Loc X.env.scope x := by first | exact Or.inl rfl | exact Or.inr rfl) (hf : X.fn x = true ∨ X.env.scope.names.lookup x = some .local := by first | exact .inl rfl | exact .inr rfl | assumption) : DT' X (.Name x pos) [i] (gtN i) :=
  ⟨⟨pgI (pg_name hN hi hx hf) fun v σ H Q ⟨B, E, r, M, O, d, R, i1, q⟩ => q.2 _ ⟨List.length_set .., fun j hj => List.getElem?_set_ne (fun z => hj (by simp [z]))⟩ (R.setv i i1), fun d r M Q Q' h q => h _ _ q⟩, fun d r M Q q => ⟨⟨rfl, fun j hj => List.getElem?_set_ne (fun z => hj (by simp [z]))⟩, q⟩⟩
theorem dts_nil : DTs' X [] [] gtNil :=
  ⟨⟨pgsI pgs_nil fun v σ H Q ⟨B, E, r, M, O, ds, R, i1, e, q⟩ => by
    subst e
    cases i1
    exact ⟨rfl, q.2 σ ⟨rfl, fun _ _ => rfl⟩ R⟩, fun d r M Q Q' h q => ⟨q.1, h _ _ q.2⟩⟩, fun d r M Q q => ⟨q.1, ⟨rfl, fun _ _ => rfl⟩, q.2⟩⟩
theorem dts_cons {ws1 ws2 : List Nat} (h1 : DT' X t ws1 gt) (h2 : DTs' X es ws2 gts) (hs : (assignEach (t :: es) X.env).map (·.2) = assign t X.env :: (assignEach es X.env).map (·.2) := by rfl) : DTs' X (t :: es) (ws1 ++ ws2) (gtCons gt gts) := by
  refine ⟨⟨pgsI (pgs_cons h1.p.run h2.p.run hs) fun vs σ H Q ⟨B, E, r, M, O, ds, R, i1, q⟩ => ?_, fun d r M Q Q' h q => ?_⟩, fun d r M Q q => ?_⟩
  · cases i1 with
    | nil => exact q.elim
    | @cons v d vs ds i t' =>
      refine ⟨v, vs, rfl, B, E, r, M, O, d, R, i, ?_⟩
      refine h1.p.mono _ _ _ _ _ (fun r1 M1 q1 => ?_) (h1.s _ _ _ _ q)
      obtain ⟨⟨e1, _⟩, q1⟩ := q1
      subst e1
      refine ⟨rfl, fun σ' o1 R' => ⟨B, E, r1, M1, O, ds, R', t', ?_⟩⟩
      exact h2.p.mono _ _ _ _ _ (fun r2 M2 q2 => ⟨q2.1, fun σ2 o2 R2 => q2.2 σ2 (o1.trans o2) R2⟩) q1
  · cases d with
    | nil => exact q.elim
    | cons d ds => exact h1.p.mono _ _ _ _ _ (fun r1 M1 q1 => h2.p.mono _ _ _ _ _ h q1) q
  · cases d with
    | nil => exact q.elim
    | cons d ds =>
      refine h1.p.mono _ _ _ _ _ (fun r1 M1 q1 => ?_) (h1.s _ _ _ _ q)
      obtain ⟨⟨e1, f1⟩, q1⟩ := q1
      subst e1
      refine h2.p.mono _ _ _ _ _ (fun r2 M2 q2 => ?_) (h2.s _ _ _ _ q1)
      exact ⟨⟨q2.1.1, fun j hj => (q2.1.2 j fun z => hj (List.mem_append_right _ z)).trans (f1 j fun z => hj (List.mem_append_left _ z))⟩, q2.2⟩
def gtTup (gts : GGs) (n : Nat) : GG := fun d r M Q => match d with
  | .tup ds => ds.length = n ∧ gts ds r M Q
  | _ => False
theorem dt_tup {k n : Nat} (hc : X.calm = true) {ws : List Nat} (h : DTs' X es ws gts) (hn : (assignEach es X.env).length = n := by rfl) (hst : (assignEach es X.env).findIdx? (·.1) = none := by rfl) : DT' X (.Tuple es k pos) ws (gtTup gts n) := by
  refine ⟨⟨pgI (pg_tup (n := n) hc h.p.run hn hst) fun v σ H Q ⟨B, E, r, M, O, d, R, i1, q⟩ => ?_, fun d r M Q Q' hh q => ?_⟩, fun d r M Q q => ?_⟩
  · unfold gtTup at q
    split at q
    · cases i1 with
      | @tup a vs _ h l => exact ⟨a, vs, rfl, h.sq, by rw [l.length]; exact q.1, B, E, r, M, O, _, R, l, q.2⟩
    · exact q.elim
  · unfold gtTup at q ⊢
    split at q
    · exact ⟨q.1, h.p.mono _ _ _ _ _ hh q.2⟩
    · exact q.elim
  · unfold gtTup at q ⊢
    split at q
    · exact ⟨q.1, h.s _ _ _ _ q.2⟩
    · exact q.elim
/-- a list unpacked -/
def gtLst (gts : GGs) (n : Nat) : GG := fun d r M Q => match d with
  | .lst ds => ds.length = n ∧ gts ds r M Q
  | _ => False
theorem dt_lst {k n : Nat} (hc : X.calm = true) {ws : List Nat} (h : DTs' X es ws gts) (hn : (assignEach es X.env).length = n := by rfl) (hst : (assignEach es X.env).findIdx? (·.1) = none := by rfl) : DT' X (.Tuple es k pos) ws (gtLst gts n) := by
  refine ⟨⟨pgI (pg_lst (n := n) hc h.p.run hn hst) fun v σ H Q ⟨B, E, r, M, O, d, R, i1, q⟩ => ?_, fun d r M Q Q' hh q => ?_⟩, fun d r M Q q => ?_⟩
  · unfold gtLst at q
    split at q
    · cases i1 with
      | @lst a vs _ h l => exact ⟨a, vs, rfl, SqL.of h.2, by rw [l.length]; exact q.1, B, E, r, M, O, _, R, l, q.2⟩
    · exact q.elim
  · unfold gtLst at q ⊢
    split at q
    · exact ⟨q.1, h.p.mono _ _ _ _ _ hh q.2⟩
    · exact q.elim
  · unfold gtLst at q ⊢
    split at q
    · exact ⟨q.1, h.s _ _ _ _ q.2⟩
    · exact q.elim
/-- target = e -/
def gAsg (ge : GE) (gt : GG) : GS := fun D r M => ge r M fun d M1 => gt d r M1 D.nx
theorem ds_asg {ws : List Nat} (he : DE true p X e ge) (hg : DT' X t ws gt) (hs : swapsWithSole [t] e pos.line X.env = pure false := by rfl) (hw : swappedStores [t] e X.env = pure none := by rfl)
    (h1 : (assignEach [t] X.env).map (·.2) = [assign t X.env] := by rfl) : DS X (.Assign [t] e pos) (gAsg ge gt) := by
  refine ⟨psI (ps_asg he.run hg.p.run hs hw h1) fun D σ H ⟨B, E, r, M, O, R, q⟩ => ?_, fun D D' r M l q => he.mono _ _ _ _ (fun d M1 q1 => hg.p.mono _ _ _ _ _ (fun r' M' q2 => l.nx _ _ q2) q1) q⟩
  refine he.on R q fun d M1 v H1 O1 k1 R1 l1 i1 => ?_
  refine ⟨B, E, r, M1, O1, d, R1, i1, ?_⟩
  refine hg.p.mono _ _ _ _ _ (fun r' M' q2 => ?_) (hg.s _ _ _ _ k1)
  obtain ⟨⟨e1, _⟩, q2⟩ := q2
  subst e1
  exact ⟨rfl, fun σ' _ R' => q2 σ' H1 O1 R'⟩
/-- x, y = a, b (names) -/
def gPar (i j : Nat) (gs : GA) : GS := fun D r M => gs r M fun ds M1 => match ds with
  | [d, e] => D.nx ((r.set i (.v d)).set j (.v e)) M1
  | _ => False
theorem ds_par (i j : Nat) {x y : Str} {a b : Expr} {px py pt : Pos} {kt k2 pt2} (hc : X.calm = true) (hN : X.N.Nodup) (ha : DA true p X [a, b] gs) (hi : X.N[i]? = some x := by rfl) (hj : X.N[j]? = some y := by rfl) (hij : i ≠ j := by decide)
    (hx : X.env.scope.names.lookup x = some .local := by rfl) (hy : X.env.scope.names.lookup y = some .local := by rfl)
    (hw : swappedStores [.Tuple [.Name x px, .Name y py] kt pt] (.Tuple [a, b] k2 pt2) X.env = pure (some [x, y]) := by rfl)
    (hs : swapsWithSole [.Tuple [.Name x px, .Name y py] kt pt] (.Tuple [a, b] k2 pt2) pos.line X.env = pure false := by rfl) :
    DS X (.Assign [.Tuple [.Name x px, .Name y py] kt pt] (.Tuple [a, b] k2 pt2) pos) (gPar i j gs) := by
  refine ⟨psI (ps_par hc hN hi hj hij hx hy ha.run hw hs) fun D σ H ⟨B, E, r, M, O, R, q⟩ => ?_, fun D D' r M l q => ha.mono _ _ _ _ (fun ds M1 q1 => ?_) q⟩
  · refine ha.on R q fun ds M1 vs H1 O1 k1 R1 l1 i1 => ?_
    have i2 := isXL_strong i1
    split at k1
    · cases i2 with
      | @cons v _ _ _ iv t =>
        cases t with
        | @cons u _ _ _ iu t =>
          cases t
          exact ⟨v, u, rfl, k1 _ H1 O1 ((R1.setv i iv).setv j iu)⟩
    · exact k1.elim
  · split at q1
    · exact l.nx _ _ q1
    · exact q1.elim
/-- x += e, x a name whose value is a number or a text -/
def gAug (i : Nat) (go : GO) (ge : GE) : GS := fun D r M => match r.sl[i]? with
  | some (.v d) => ge r M fun e M1 => go d e M1 fun z M2 => D.nx (r.set i (.v z)) M2
  | _ => False
def goPlus : GO := fun d e M Q => match d, e with
  | .int i, .int j => Q (.int (i + j)) M
  | _, _ => False
abbrev GI := Fr → Mem → (List D → Mem → Prop) → Prop
/-- from a state on: item by item, as long as only what may change changes -/
def WalkOk (X : Cx) (B : Addr → Prop) (H1 : Hp) (M1 : Mem) (O1 : Own) (J : It) (ds : List D) : Prop := ∀ A U H, (∀ b, H b = none → ¬ A b) → Step (Av B M1 O1) H1 A H → Step (Mut M1 O1) H1 U H → ∀ i,
  (∀ d, ds[i]? = some d → J.go i H ∧ ∀ x H', J.yld i H x H' → Same H H' ∧ Is X.K A H' x d) ∧ (ds.length ≤ i → J.stop i H)
/-- .. while what was there stays as it was (where p says so) -/
def WalkQ (p : Bool) (X : Cx) (B : Addr → Prop) (H1 : Hp) (M1 : Mem) (O1 : Own) (J : It) (ds : List D) : Prop := ∀ A U H, (∀ b, H b = none → ¬ A b) → Step (Av B M1 O1) H1 A H → Step (Mut M1 O1) H1 U H → (p = true → Same H1 H) → ∀ i,
  (∀ d, ds[i]? = some d → J.go i H ∧ ∀ x H', J.yld i H x H' → Same H H' ∧ Is X.K A H' x d) ∧ (ds.length ≤ i → J.stop i H)
theorem WalkOk.q {p : Bool} {X : Cx} {B : Addr → Prop} {H1 : Hp} {M1 : Mem} {O1 : Own} {J : It} {ds : List D} (h : WalkOk X B H1 M1 O1 J ds) : WalkQ p X B H1 M1 O1 J ds := fun A U H a b c _ => h A U H a b c
structure DI (p : Bool) (X : Cx) (tg iter : Expr) (gi : GI) : Prop where
  ex : ∃ wi, PI X tg iter wi ∧ ∀ B E σ H r M O k R', Rep X B E σ H r M O → gi r M k → (∀ ds M1 H1 O1 J, k ds M1 → Rep X B E σ H1 r M1 O1 → Rl p M O H M1 O1 H1 → WalkOk X B H1 M1 O1 J ds → R' J H1) → wi σ H R'
  mono : ∀ r M Q Q', (∀ d M', Q d M' → Q' d M') → gi r M Q → gi r M Q'
/-- from here on: the heap as it is now -/
def En.now (E : En) (H : Hp) (M : Mem) (O : Own) : En := { E with H := H, U := Mut M O }
theorem Rep.now (R : Rep X B E σ H r M O) : Rep X B (E.now H M O) σ H r M O :=
  ⟨R.m, R.len, R.sl, Step.refl _ _, R.sub, fun C M' H' O' h1 h2 h3 => R.exc C M' H' O' h1 (R.ent.trans h2) h3, R.lk, R.xe⟩
theorem Rep.then (R : Rep X B E σ H r M O) {σ' : L2.St} {H' : Hp} {r' : Fr} {M' : Mem} {O' : Own} (R' : Rep X B (E.now H M O) σ' H' r' M' O') : Rep X B E σ' H' r' M' O' :=
  ⟨R'.m, R'.len, R'.sl, R.ent.trans R'.ent, R.sub, R.exc, R.lk, R'.xe⟩
end
end DL
set_option Elab.async false
set_option linter.all false
set_option maxRecDepth 100000
namespace DL
open PySem PySem.Spec PyProof.Rows L2
section
variable {X : Cx} {w p : Bool} {e t iter tg : Expr} {es : List Expr} {g ga ge : GE} {gf : GF} {gs : GA} {gt : GG} {gi : GI} {B : Addr → Prop} {E : En} {σ : L2.St} {H : Hp} {r : Fr} {M : Mem} {O : Own} {pos : Pos}
theorem av_step {H1 : Hp} {M1 : Mem} {O1 : Own} (s : Step (Mut M1 O1) H1 (Mut M O) H) : Step (Av B M1 O1) H1 (Av B M O) H := fun a o e n =>
  have n1 : ¬ B a := fun z => n (.inl z)
  have ⟨h1, h2⟩ := s a o e fun z => n (.inr z)
  ⟨h1, fun z => z.elim n1 h2⟩
/-- a list or tuple that stands -/
theorem walk_lst {H1 : Hp} {M1 : Mem} {O1 : Own} {a : Addr} {vs : List V} {ds : List D} (h : LstAt (Mut M1 O1) H1 a vs) (l : IsL X.K (Av B M1 O1) H1 vs ds) : WalkOk X B H1 M1 O1 (Itl X.K a) ds := by
  intro A U H fA sA s i
  have h' := h.step s
  have l' := l.step sA
  refine ⟨fun d hd => ?_, fun hle => ⟨vs, SqL.of h'.2, by rw [l'.length]; exact hle⟩⟩
  obtain ⟨v, hv, iv⟩ := l'.get hd
  refine ⟨⟨vs, v, SqL.of h'.2, hv⟩, fun x H' ⟨e1, e2⟩ => ?_⟩
  subst e1
  have e3 := e2 vs (SqL.of h'.2)
  rw [hv] at e3
  cases e3
  exact ⟨Same.refl _, iv⟩
theorem walk_tup {H1 : Hp} {M1 : Mem} {O1 : Own} {a : Addr} {vs : List V} {ds : List D} (h : TupAt X.K (Mut M1 O1) H1 a vs) (l : IsL X.K (Av B M1 O1) H1 vs ds) : WalkOk X B H1 M1 O1 (Itt X.K a) ds := by
  intro A U H fA sA s i
  have h' := h.step s
  have l' := l.step sA
  refine ⟨fun d hd => ?_, fun hle => ⟨vs, h'.sq, by rw [l'.length]; exact hle⟩⟩
  obtain ⟨v, hv, iv⟩ := l'.get hd
  refine ⟨⟨vs, v, h'.sq, hv⟩, fun x H' ⟨e1, e2⟩ => ?_⟩
  subst e1
  have e3 := e2 vs h'.sq
  rw [hv] at e3
  cases e3
  exact ⟨Same.refl _, iv⟩
theorem lst_mut {a : Addr} {vs : List V} (h : LstAt (Av B M O) H a vs) : LstAt (Mut M O) H a vs := ⟨fun z => h.1 (.inr z), h.2⟩
theorem tup_mut {a : Addr} {vs : List V} (h : TupAt X.K (Av B M O) H a vs) : TupAt X.K (Mut M O) H a vs := by
  rcases h with ⟨n, h⟩ | h
  · exact .inl ⟨fun z => n (.inr z), h⟩
  · exact .inr h
/-- the script -/
def giS (i : Nat) : GI := fun r M Q => match r.sl[i]? with
  | some (.s ns) => Q (ns.map D.int) M
  | _ => False
theorem di_scr (i : Nat) {x : Str} (hN : X.N[i]? = some x := by rfl) (hv : Vis X.env.scope x := by first | exact Or.inl rfl | exact Or.inr (Or.inl rfl) | exact Or.inr (Or.inr rfl)) (hd : (x == ("__debug__" : Str)) = false := by decide)
    (hcd : (x == ("__classdict__" : Str)) = false := by decide) : DI p X tg (.Name x pos) (giS i) where
  ex := ⟨_, pi_list (pe_var hN hv hd hcd), fun B E σ H r M O k R' R q hR => by
    unfold giS at q
    split at q
    · rename_i ns er
      obtain ⟨x, e1, a, e2, h⟩ := R.slot er
      subst e2
      refine ⟨_, e1, a, rfl, ⟨_, h.sq⟩, hR _ M H O _ q R Rl.refl ?_⟩
      intro A2 U2 H2 fA sA s j
      have h' := (h.step s).sq
      refine ⟨fun d hd => ?_, fun hle => ⟨_, h', by rw [List.length_map] at hle ⊢; exact hle⟩⟩
      obtain ⟨v, hv, iv⟩ := (IsL.ints (K := X.K) (A := A2) (H := H2) ns).get hd
      refine ⟨⟨_, v, h', hv⟩, fun x H' ⟨e1, e2⟩ => ?_⟩
      subst e1
      have e3 := e2 _ h'
      rw [hv] at e3
      cases e3
      exact ⟨Same.refl _, iv⟩
    · exact q.elim⟩
  mono := fun r M Q Q' h q => by
    unfold giS at q ⊢
    split at q
    · exact h _ _ q
    · exact q.elim
/-- range -/
def rngD (lo : Int) (n : Nat) : List D := (List.range n).map fun (i : Nat) => D.int (lo + i)
theorem rngD_get {lo : Int} {n i : Nat} {d : D} (h : (rngD lo n)[i]? = some d) : i < n ∧ d = .int (lo + i) := by
  unfold rngD at h
  rw [List.getElem?_map] at h
  cases q : (List.range n)[i]? with
  | none => rw [q] at h; cases h
  | some j =>
    rw [q] at h
    obtain ⟨h1, h2⟩ := List.getElem?_eq_some_iff.mp q
    rw [List.length_range] at h1
    rw [List.getElem_range] at h2
    subst h2
    have h : some (D.int (lo + (i : Nat))) = some d := h
    cases h
    exact ⟨h1, rfl⟩
theorem rngD_len (lo : Int) (n : Nat) : (rngD lo n).length = n := by unfold rngD; rw [List.length_map, List.length_range]
theorem walk_rng {H1 : Hp} {M1 : Mem} {O1 : Own} {lo : Int} {n : Nat} : WalkOk X B H1 M1 O1 (Itr lo n) (rngD lo n) := by
  intro A U H fA sA s i
  refine ⟨fun d hd => ?_, fun hle => by rw [rngD_len] at hle; exact hle⟩
  obtain ⟨h1, rfl⟩ := rngD_get hd
  refine ⟨h1, fun x H' ⟨e1, e2⟩ => ?_⟩
  subst e1; subst e2
  exact ⟨Same.refl _, .int _⟩
def giR1 (gs : GA) : GI := fun r M Q => gs r M fun ds M1 => match ds with
  | [.int j] => (-(2 ^ 62) ≤ j ∧ j < 2 ^ 62) ∧ Q (rngD 0 j.toNat) M1
  | _ => False
def giR2 (gs : GA) : GI := fun r M Q => gs r M fun ds M1 => match ds with
  | [.int i, .int j] => (-(2 ^ 62) ≤ i ∧ i < 2 ^ 62 ∧ -(2 ^ 62) ≤ j ∧ j < 2 ^ 62) ∧ Q (rngD i (j - i).toNat) M1
  | _ => False
theorem di_range1 {a : Expr} {pf : Pos} (hg : Gl X "range") (hm : X.mg "range" = none) (ha : DA w p X [a] gs) (hs : starEach [a] X.env = [(false, eval a X.env)] := by rfl) : DI p X tg (.Call (.Name "range" pf) [a] [] pos) (giR1 gs) where
  ex := ⟨_, pi_range1 hg hm ha.run hs, fun B E σ H r M O k R' R q hR => by
    refine ha.on R q fun ds M1 vs H1 O1 k1 R1 l1 i1 => ?_
    have i2 := isXL_weak i1
    split at k1
    · obtain ⟨v, rfl, iv⟩ := isXL1 i2
      rw [is1_int iv]
      exact ⟨_, rfl, k1.1.1, k1.1.2, hR _ M1 H1 O1 _ k1.2 R1 l1 walk_rng⟩
    · exact k1.elim⟩
  mono := fun r M Q Q' h q => ha.mono _ _ _ _ (fun d M1 q1 => by
    split at q1
    · exact ⟨q1.1, h _ _ q1.2⟩
    · exact q1.elim) q
def loopD (gt : GG) (gb : GS) : List D → GS
  | [] => fun D r M => D.nx r M
  | d :: ds => fun D r M => gt d r M fun r' M' => gb { D with nx := loopD gt gb ds D, ct := loopD gt gb ds D, bk := D.nx } r' M'
def gFor (gi : GI) (gt : GG) (gb : GS) : GS := fun D r M => gi r M fun ds M1 => loopD gt gb ds D r M1
theorem loopD_mono {gb : GS} (ht : ∀ d r M Q Q', (∀ r' M', Q r' M' → Q' r' M') → gt d r M Q → gt d r M Q') (hb : MonoS gb) : ∀ ds, MonoS (loopD gt gb ds)
  | [] => fun D D' r M l q => l.nx _ _ q
  | d :: ds => fun D D' r M l q => by
    have ih := loopD_mono ht hb ds
    exact ht d r M _ _ (fun r' M' q1 => hb { D with nx := loopD gt gb ds D, ct := loopD gt gb ds D, bk := D.nx } _ r' M' ⟨fun r2 M2 q2 => ih D D' r2 M2 l q2, l.rt, fun r2 M2 q2 => l.nx _ _ q2, fun r2 M2 q2 => ih D D' r2 M2 l q2⟩ q1) q
theorem ds_for {body : List Stmt} {gb : GS} {ws : List Nat} (hp : PassesOwn (model X.prog X.w) X.A X.env X.xe) (hc : X.calm = true) (hi : DI p X tg iter gi) (hg : DT' X tg ws gt) (hb : DSs X body gb)
    (hs : ∀ x, foldedSetIterable iter X.env x = pure x := by intro _; rfl) : DS X (.For tg iter body [] pos) (gFor gi gt gb) := by
  obtain ⟨wi, hpi, hwi⟩ := hi.ex
  refine ⟨psI (ps_for hp hc hpi hg.p.run hb.run hs) fun D σ H ⟨B, E, r, M, O, R, q⟩ => ?_, fun D D' r M l q => hi.mono _ _ _ _ (fun ds M1 q1 => loopD_mono hg.p.mono hb.mono ds D D' r M1 l q1) q⟩
  refine hwi B E σ H r M O _ _ R q fun ds M1 H1 O1 J k1 R1 _ W1 => ?_
  refine ⟨fun i m σ' H' => i + m = ds.length ∧ ∃ r' M' O', Rep X B (E.now H1 M1 O1) σ' H' r' M' O' ∧ loopD gt gb (ds.drop i) (LS X B E D) r' M',
    ⟨ds.length, by omega, r, M1, O1, R1.now, by rw [List.drop_zero]; exact k1⟩, fun i m σ' H' ⟨him, r', M', O', R', q'⟩ => ?_⟩
  obtain ⟨w1, w2⟩ := W1 (Av B M' O') _ H' (fun b h => R'.m.fresh h) (av_step R'.ent) R'.ent i
  by_cases hlt : i < ds.length
  · right
    obtain ⟨d, hd⟩ : ∃ d, ds[i]? = some d := ⟨_, List.getElem?_eq_getElem hlt⟩
    obtain ⟨go, yl⟩ := w1 d hd
    have hdrop : ds.drop i = d :: ds.drop (i + 1) := by
      rw [List.drop_eq_getElem_cons hlt]
      rw [List.getElem?_eq_getElem hlt] at hd
      cases hd
      rfl
    rw [hdrop] at q'
    refine ⟨go, fun σ2 H2 => ∃ r2 M2 O2, Rep X B (E.now H1 M1 O1) σ2 H2 r2 M2 O2 ∧ loopD gt gb (ds.drop (i + 1)) (LS X B E D) r2 M2, fun σ2 H2 h2 => ⟨m - 1, by omega, by omega, h2⟩, fun x H2 hy => ?_⟩
    obtain ⟨sm, ix⟩ := yl x H2 hy
    have R2 := R'.same sm
    refine ⟨B, E.now H1 M1 O1, r', M', O', d, R2, ix, ?_⟩
    refine hg.p.mono _ _ _ _ _ (fun r3 M3 q3 => ?_) (hg.s _ _ _ _ q')
    obtain ⟨⟨e3, _⟩, q3⟩ := q3
    subst e3
    refine ⟨rfl, fun σ3 _ R3 => ⟨B, E.now H1 M1 O1, r3, M3, O', R3, ?_⟩⟩
    refine hb.mono { LS X B E D with nx := loopD gt gb (ds.drop (i + 1)) (LS X B E D), ct := loopD gt gb (ds.drop (i + 1)) (LS X B E D), bk := (LS X B E D).nx } _ _ _ ⟨fun r4 M4 q4 σ4 H4 O4 R4 => ⟨r4, M4, O4, R4, q4⟩, fun d4 M4 q4 v4 H4 O4 h4 s4 i4 => q4 v4 H4 O4 h4 (R1.ent.trans s4) i4, fun r4 M4 q4 σ4 H4 O4 R4 => q4 σ4 H4 O4 (R1.then R4), fun r4 M4 q4 σ4 H4 O4 R4 => ⟨r4, M4, O4, R4, q4⟩⟩ q3
  · left
    have hn : ds.drop i = [] := List.drop_eq_nil_of_le (by omega)
    rw [hn] at q'
    exact ⟨w2 (by omega), q' σ' H' O' (R1.then R')⟩
def gWhile (gc : GT) (gb : GS) : GS := fun D r M => ∃ W : Nat → Fr → Mem → Prop, (∃ m, W m r M) ∧ ∀ m r M, W m r M →
  gc r M fun b M1 => if b = true then gb { D with nx := fun r' M' => ∃ m', m' < m ∧ W m' r' M', ct := fun r' M' => ∃ m', m' < m ∧ W m' r' M', bk := D.nx } r M1 else D.nx r M1
theorem ds_while {c : Expr} {body : List Stmt} {gc : GT} {gb : GS} (hp : PassesOwn (model X.prog X.w) X.A X.env X.xe) (hc : DT p X c gc) (hb : DSs X body gb) : DS X (.While c body [] pos) (gWhile gc gb) := by
  refine ⟨psI (ps_while hp hc.run hb.run) fun D σ H ⟨B, E, r, M, O, R, W, ⟨m0, w0⟩, turn⟩ => ?_, fun D D' r M l ⟨W, w0, turn⟩ => ⟨W, w0, fun m r M w => hc.mono _ _ _ _ (fun b M1 q1 => ?_) (turn m r M w)⟩⟩
  · refine ⟨fun m σ' H' => ∃ r' M' O', Rep X B E σ' H' r' M' O' ∧ W m r' M', ⟨m0, r, M, O, R, w0⟩, fun m σ' H' ⟨r', M', O', R', w'⟩ => ?_⟩
    refine hc.on R' (turn m r' M' w') fun b M1 H1 O1 k1 R1 l1 => ?_
    cases b with
    | true =>
      rw [if_pos rfl] at k1 ⊢
      refine ⟨fun σ2 H2 => ∃ m', m' < m ∧ ∃ r2 M2 O2, Rep X B E σ2 H2 r2 M2 O2 ∧ W m' r2 M2, fun σ2 H2 h => h, B, E, r', M1, O1, R1, ?_⟩
      refine hb.mono { LS X B E D with nx := fun r' M' => ∃ m', m' < m ∧ W m' r' M', ct := fun r' M' => ∃ m', m' < m ∧ W m' r' M', bk := (LS X B E D).nx } _ _ _ ⟨fun r2 M2 ⟨m', h1, h2⟩ σ2 H2 O2 R2 => ⟨m', h1, r2, M2, O2, R2, h2⟩, fun _ _ q => q, fun r2 M2 q2 σ2 H2 O2 R2 => q2 σ2 H2 O2 R2, fun r2 M2 ⟨m', h1, h2⟩ σ2 H2 O2 R2 => ⟨m', h1, r2, M2, O2, R2, h2⟩⟩ k1
    | false =>
      rw [if_neg Bool.false_ne_true] at k1 ⊢
      exact k1 σ' H1 O1 R1
  · cases b with
    | true =>
      rw [if_pos rfl] at q1 ⊢
      exact hb.mono { D with nx := fun r' M' => ∃ m', m' < m ∧ W m' r' M', ct := fun r' M' => ∃ m', m' < m ∧ W m' r' M', bk := D.nx } _ _ _ ⟨fun _ _ q => q, l.rt, fun r2 M2 q2 => l.nx _ _ q2, fun _ _ q => q⟩ q1
    | false =>
      rw [if_neg Bool.false_ne_true] at q1 ⊢
      exact l.nx _ _ q1
end
end DL
set_option Elab.async false
set_option linter.all false
set_option maxRecDepth 100000
namespace DL
open PySem PySem.Spec PyProof.Rows L2
def wipeS (sl : List Sl) : List Nat → List Sl
  | [] => sl
  | v :: vs => (wipeS sl vs).set v .n
theorem wipeS_len (sl : List Sl) : ∀ vs, (wipeS sl vs).length = sl.length
  | [] => rfl
  | v :: vs => by unfold wipeS; rw [List.length_set, wipeS_len sl vs]
theorem wipeS_get {sl : List Sl} {j : Nat} {s : Sl} : ∀ {vs : List Nat}, (wipeS sl vs)[j]? = some s → s = .n ∨ (j ∉ vs ∧ sl[j]? = some s)
  | [], h => .inr ⟨by simp, h⟩
  | v :: vs, h => by
    unfold wipeS at h
    by_cases hj : v = j
    · subst hj
      by_cases hv : v < (wipeS sl vs).length
      · rw [List.getElem?_set_self hv] at h
        cases h
        exact .inl rfl
      · rw [List.getElem?_eq_none (by simpa using hv)] at h
        cases h
    · rw [List.getElem?_set_ne hj] at h
      rcases wipeS_get h with h | ⟨h1, h2⟩
      · exact .inl h
      · exact .inr ⟨by simp only [List.mem_cons, not_or]; exact ⟨fun e => hj e.symm, h1⟩, h2⟩
theorem wipeS_out {sl : List Sl} {j : Nat} : ∀ {vs : List Nat}, j ∉ vs → (wipeS sl vs)[j]? = sl[j]?
  | [], _ => rfl
  | v :: vs, h => by
    unfold wipeS
    rw [List.getElem?_set_ne (fun e => h (by simp [e])), wipeS_out fun z => h (List.mem_cons_of_mem _ z)]
theorem wipe_out {σ : L2.St} {j : Nat} : ∀ {vs : List Nat}, j ∉ vs → (wipe σ vs)[j]? = σ[j]?
  | [], _ => rfl
  | v :: vs, h => by
    unfold wipe
    rw [List.getElem?_set_ne (fun e => h (by simp [e])), wipe_out fun z => h (List.mem_cons_of_mem _ z)]
theorem wipe_in {σ : L2.St} {j : Nat} (hj : j < σ.length) : ∀ {vs : List Nat}, j ∈ vs → (wipe σ vs)[j]? = some none
  | v :: vs, h => by
    unfold wipe
    by_cases hv : v = j
    · subst hv
      rw [List.getElem?_set_self (by rw [wipe_length]; exact hj)]
    · rw [List.getElem?_set_ne hv]
      exact wipe_in hj ((List.mem_cons.mp h).resolve_left fun e => hv e.symm)
theorem wipe_same {σ σ' : L2.St} {ws vs : List Nat} (o : Out ws (wipe σ vs) σ') (h : ∀ j ∈ ws, j ∈ vs) : wipe σ' vs = wipe σ vs := by
  apply List.ext_getElem?
  intro j
  by_cases hj : j ∈ vs
  · by_cases hl : j < σ.length
    · rw [wipe_in hl hj, wipe_in (by rw [o.1, wipe_length]; exact hl) hj]
    · rw [List.getElem?_eq_none (by rw [wipe_length, o.1, wipe_length]; omega), List.getElem?_eq_none (by rw [wipe_length]; omega)]
  · rw [wipe_out hj, o.2 j fun z => hj (h j z)]
def wipeF (r : Fr) (vs : List Nat) : Fr := ⟨wipeS r.sl vs, fun _ _ => False⟩
def noOwn (r : Fr) (vs : List Nat) : Bool := vs.all fun j => match r.sl[j]? with
  | some (.o _) => false
  | _ => true
def En.blk (H : Hp) (M : Mem) (O : Own) : En := ⟨fun _ => False, H, Mut M O, fun _ _ => False, fun _ _ => False⟩
theorem pass_no {X : Cx} : Takes X (fun cls d _ H => xk (fun _ _ => False) cls d H) := fun u s' h => by
  obtain ⟨_, _, _, _, _, _, _, _, _, _, _, _, _, _, _, _, z⟩ := h
  obtain ⟨_, _, _, z⟩ := z
  exact z.elim
section
variable {X X' : Cx} {w p : Bool} {e t iter tg : Expr} {es : List Expr} {g ga ge : GE} {gf : GF} {gs : GA} {gt : GG} {gi : GI} {gtt : GT} {B : Addr → Prop} {E : En} {σ : L2.St} {H H' : Hp} {r : Fr} {M : Mem} {O : Own} {pos : Pos}
theorem New.blk {a : Addr} (hK : X'.K = X.K) (N : New X B E σ H r M O a) (vs : List Nat) : Rep X' (Bp B a) (En.blk H M O) (wipe σ vs) H (wipeF r vs) M O := by
  refine ⟨by rw [hK]; exact N.m, by show (wipe σ vs).length = (wipeS r.sl vs).length; rw [wipe_length, wipeS_len]; exact N.len, fun i s e => ?_, Step.refl _ _, fun _ z => z.elim, fun _ _ _ _ _ _ z => z.elim, pass_no, rfl⟩
  rcases wipeS_get e with rfl | ⟨hi, e⟩
  · trivial
  · rw [wipe_out hi, hK]
    have q := N.sl i s e
    rw [← av_up] at q
    exact q.stepS (Step.refl _ _) step_dn fun l q => ⟨q, fun _ e => e⟩
def lcD (gt : GG) (gtt : GT) (ge : GE) (r : Fr) : List D → List D → Mem → (List D → Mem → Prop) → Prop
  | [], acc, M, Q => Q acc M
  | d :: ds, acc, M, Q => gt d r M fun r1 M1 => gtt r1 M1 fun b M2 => if b = true then ge r1 M2 fun x M3 => acc.length < sizeLine ∧ lcD gt gtt ge r ds (acc ++ [x]) M3 Q else lcD gt gtt ge r ds acc M2 Q
theorem lcD_mono (ht : ∀ d r M Q Q', (∀ r' M', Q r' M' → Q' r' M') → gt d r M Q → gt d r M Q') (htt : ∀ r M Q Q', (∀ d M', Q d M' → Q' d M') → gtt r M Q → gtt r M Q') (he : ∀ r M Q Q', (∀ d M', Q d M' → Q' d M') → ge r M Q → ge r M Q') :
    ∀ ds acc M Q Q', (∀ a M', Q a M' → Q' a M') → lcD gt gtt ge r ds acc M Q → lcD gt gtt ge r ds acc M Q'
  | [], acc, M, Q, Q', h, q => h _ _ q
  | d :: ds, acc, M, Q, Q', h, q => ht _ _ _ _ _ (fun r1 M1 q1 => htt _ _ _ _ (fun b M2 q2 => by
      cases b with
      | true =>
        rw [if_pos rfl] at q2 ⊢
        exact he _ _ _ _ (fun x M3 q3 => ⟨q3.1, lcD_mono ht htt he ds _ _ _ _ h q3.2⟩) q2
      | false =>
        rw [if_neg Bool.false_ne_true] at q2 ⊢
        exact lcD_mono ht htt he ds _ _ _ _ h q2) q1) q
def gLc (gi : GI) (gt : GG) (gtt : GT) (ge : GE) (vs : List Nat) : GF := fun r M Q => noOwn r vs = true ∧ gi r M fun ds M1 => lcD gt gtt ge (wipeF r vs) ds [] M1 fun acc M2 => Q (.lst acc) M2
/-- the tests of a comprehension -/
structure DTts (p : Bool) (X : Cx) (ifs : List Expr) (g : GT) : Prop where
  run : PTs X ifs (fun σ H Q => ∃ B E r M O, Rep X B E σ H r M O ∧ g r M (LT p X B E σ r H M O Q))
  mono : ∀ r M Q Q', (∀ d M', Q d M' → Q' d M') → g r M Q → g r M Q'
def gYes : GT := fun _ M Q => Q true M
theorem dtts_nil : DTts p X [] gYes := ⟨⟨fun pins s σ H Q I ⟨B, E, r, M, O, R, q⟩ => pts_nil.run pins s σ H Q I (q H O R Rl.refl)⟩, fun _ _ _ _ h q => h _ _ q⟩
theorem dtts_one {c : Expr} {gc : GT} (h : DT p X c gc) : DTts p X [c] gc := ⟨pts_one h.run, h.mono⟩
theorem DTts.on {ifs : List Expr} {gt : GT} (ha : DTts p X ifs gt) (R : Rep X B E σ H r M O) {k : Bool → Mem → Prop} (h : gt r M k) {Q : Bool → Hp → Prop}
    (hk : ∀ d M1 H1 O1, k d M1 → Rep X B E σ H1 r M1 O1 → Rl p M O H M1 O1 H1 → Q d H1) :
    ∃ B E r M O, Rep X B E σ H r M O ∧ gt r M (LT p X B E σ r H M O Q) :=
  ⟨B, E, r, M, O, R, ha.mono r M _ _ (fun d M1 h1 H1 O1 R1 l1 => hk d M1 H1 O1 h1 R1 l1) h⟩
/-- behind a turn: the slots as they were -/
theorem New.turn {a : Addr} (hK : X'.K = X.K) (N : New X B E σ H r M O a) {vs ws : List Nat} (hws : ∀ j ∈ ws, j ∈ vs) (hno : noOwn r vs = true) {σ2 : L2.St} {r2 : Fr} {E2 : En} {M' : Mem} {O' : Own} (o : Out ws (wipe σ vs) σ2) (f : ∀ j, j ∉ ws → r2.sl[j]? = (wipeF r vs).sl[j]?)
    (l : Rl p M O H M' O' H') (R : Rep X' (Bp B a) E2 σ2 H' r2 M' O') (ha : H a ≠ none) : New X B E σ H' r M' O' a := by
  have nav : ¬ Av B M' O' a := fun z => by
    rcases z with z | z
    · exact N.nav (.inl z)
    · cases e : H a with
      | none => exact ha e
      | some o => exact (l.2 a o e fun q => N.nav (.inr q)).2 z
  have sA : Step (Up (Av B M O) a) H (Up (Av B M' O') a) H' := step_up l.avs
  have sU : Step (Up (Mut M O) a) H (Up (Mut M' O') a) H' := step_up l.2
  refine ⟨by rw [← hK]; exact R.m, N.len, fun i sl e => ?_, N.ent.trans sU, N.sub, N.exc, N.lk, N.xe, nav⟩
  have q := N.sl i sl e
  cases sl with
  | n => trivial
  | v d =>
    obtain ⟨v, e1, e2⟩ := q
    exact ⟨v, e1, e2.step sA⟩
  | o m =>
    have hi : i ∉ vs := fun z => by
      have h := List.all_eq_true.mp hno i z
      rw [e] at h
      cases h
    have hi' : i ∉ ws := fun z => hi (hws i z)
    have e2 : r2.sl[i]? = some (.o m) := by
      rw [f i hi']
      show (wipeS r.sl vs)[i]? = _
      rw [wipeS_out hi]; exact e
    have q2 : SlU X'.K (Av (Bp B a) M' O') (Mut M' O') O' H' i ((σ2[i]?).getD none) (.o m) := R.sl i _ e2
    rw [o.2 i hi', wipe_out hi, hK, av_up] at q2
    exact q2
  | b k ds =>
    obtain ⟨a, vs, e1, e2, e3⟩ := q
    exact ⟨a, vs, e1, e2.step sU, e3.step sA⟩
  | s ns =>
    obtain ⟨a, e1, e2⟩ := q
    exact ⟨a, e1, e2.step sU⟩
  | f l => exact ⟨q.1, q.2.trans sA⟩
theorem Rl.put {a : Addr} {H1 : Hp} {M1 : Mem} {O1 : Own} {u : HO} (l : Rl p M1 O1 H1 M O H) (n : H1 a = none) : Rl p M1 O1 H1 M O (upd H a u) :=
  ⟨fun e => by
    obtain ⟨h1, h2, h3⟩ := l.1 e
    exact ⟨h1, h2, fun b o e => by rw [upd_ne (ne_of_none e n)]; exact h3 b o e⟩,
  fun b o e nb => by
    obtain ⟨h1, h2⟩ := l.2 b o e nb
    exact ⟨by rw [upd_ne (ne_of_none e n)]; exact h1, h2⟩⟩
/-- the new list grows: nobody stands on it -/
theorem New.put {a : Addr} (N : New X B E σ H r M O a) (ha : H a ≠ none) {u : HO} : New X B E σ (upd H a u) r M O a := by
  have s : ∀ {A : Addr → Prop}, Step (Up A a) H (Up A a) (upd H a u) := fun {A} b o e n => ⟨by rw [upd_ne (fun z => n (.inr z))]; exact e, n⟩
  have nO : O a = none := by
    cases e : O a with
    | none => rfl
    | some w => exact (N.nav (.inr (.inr (by rw [e]; simp)))).elim
  have nM : M a = none := by
    cases e : M a with
    | none => rfl
    | some w => exact (N.nav (.inr (.inl (by rw [e]; simp)))).elim
  have keep : ∀ {b : Addr} {o : HO}, b ≠ a → H b = some o → upd H a u b = some o := fun {b o} h e => by rw [upd_ne h]; exact e
  have nn : ∀ {b : Addr}, H b ≠ none → upd H a u b ≠ none := fun {b} h => by
    by_cases hb : b = a
    · subst hb; rw [upd_same]; exact fun z => nomatch z
    · rw [upd_ne hb]; exact h
  refine ⟨⟨fun b mo e => ?_, fun b w e => ?_, fun b z => nn (N.m.btr b z)⟩, N.len, fun i sl e => (N.sl i sl e).stepS s s fun l q => ⟨q, fun o e => keep (fun z => ?_) e⟩, N.ent.trans s, N.sub, N.exc, N.lk, N.xe, N.nav⟩
  · obtain ⟨h1, h2, h3⟩ := N.m.mem b mo e
    refine ⟨h1, h2, ?_⟩
    rw [av_up] at h3 ⊢
    exact h3.stepS s (fun o e' => keep (fun z => by subst z; rw [nM] at e; cases e) e') fun l f q => ⟨q, fun o e => keep (fun z => by subst z; rw [nO] at q; cases q) e⟩
  · exact ⟨(N.m.own b w e).1, nn (N.m.own b w e).2⟩
  · subst z
    rw [nO] at q
    cases q
/-- the same, whatever the context's exceptions: none are let out -/
structure RepK (K : PySem.W.Frag) (B : Addr → Prop) (E : En) (σ : L2.St) (H : Hp) (r : Fr) (M : Mem) (O : Own) : Prop where
  m : MemOk K B H M O
  len : σ.length = r.sl.length
  sl : ∀ i s, r.sl[i]? = some s → SlOk K B H M O i ((σ[i]?).getD none) s
  ent : Step E.U E.H (Mut M O) H
  sub : ∀ b, E.B b → B b
  xe : r.ex = E.X
  no : E.X = (fun _ _ => False) ∧ E.W = (fun _ _ => False)
theorem RepK.rep (R : RepK X'.K B E σ H r M O) : Rep X' B E σ H r M O :=
  ⟨R.m, R.len, R.sl, R.ent, R.sub, fun C M' H' O' _ _ z => by rw [R.no.1] at z; exact z.elim, by rw [R.no.2]; exact pass_no, R.xe⟩
theorem Rep.k (R : Rep X' B E σ H r M O) (h : E.X = (fun _ _ => False) ∧ E.W = (fun _ _ => False)) : RepK X'.K B E σ H r M O := ⟨R.m, R.len, R.sl, R.ent, R.sub, R.xe, h⟩
def uE (p : Bool) (K : PySem.W.Frag) (g : GE) : TE := fun σ H Q => ∃ B E r M O, RepK K B E σ H r M O ∧ g r M fun d M' => ∀ v H' O', RepK K B E σ H' r M' O' → Rl p M O H M' O' H' → Is K (Av B M' O') H' v d → Q v H'
def uT (p : Bool) (K : PySem.W.Frag) (g : GT) : TT := fun σ H Q => ∃ B E r M O, RepK K B E σ H r M O ∧ g r M fun d M' => ∀ H' O', RepK K B E σ H' r M' O' → Rl p M O H M' O' H' → Q d H'
def uG (K : PySem.W.Frag) (ws : List Nat) (g : GG) : TG := fun v σ H Q => ∃ B E r M O d, RepK K B E σ H r M O ∧ Is K (Av B M O) H v d ∧ g d r M fun r' M' => (M' = M ∧ ∀ j, j ∉ ws → r'.sl[j]? = r.sl[j]?) ∧ ∀ σ', Out ws σ σ' → RepK K B E σ' H r' M O → Q σ' H
theorem DE.u (h : DE true p X' e ge) : PE X' e (uE p X'.K ge) := peI h.run fun σ H Q ⟨B, E, r, M, O, R, q⟩ =>
  h.on R.rep q fun d M1 v H1 O1 k1 R1 l1 i1 => k1 v H1 O1 (R1.k R.no) l1 i1
theorem DTts.u {ifs : List Expr} (h : DTts p X' ifs gtt) : PTs X' ifs (uT p X'.K gtt) := ⟨fun pins s σ H Q I ⟨B, E, r, M, O, R, q⟩ => h.run.run pins s σ H Q I
  (h.on R.rep q fun d M1 H1 O1 k1 R1 l1 => k1 H1 O1 (R1.k R.no) l1)⟩
theorem DT'.u {ws : List Nat} (h : DT' X' tg ws gt) : PG X' tg (uG X'.K ws gt) := pgI h.p.run fun v σ H Q ⟨B, E, r, M, O, d, R, i1, q⟩ =>
  ⟨B, E, r, M, O, d, R.rep, i1, h.p.mono _ _ _ (fun r' M' => (M' = M ∧ ∀ j, j ∉ ws → r'.sl[j]? = r.sl[j]?) ∧ ∀ σ', Out ws σ σ' → RepK X'.K B E σ' H r' M O → Q σ' H) _ (fun r' M' q1 => ⟨q1.1.1, fun σ' o R' => q1.2 σ' o (R'.k R.no)⟩) q⟩
theorem New.same {a : Addr} (N : New X B E σ H r M O a) (s : Same H H') : New X B E σ H' r M O a :=
  ⟨N.m.same s, N.len, fun i sl e => (N.sl i sl e).stepS (step_same s fun _ z => z) (step_same s fun _ z => z) fun l q => ⟨q, s l⟩, N.ent.trans (step_same s fun _ z => z), N.sub, N.exc, N.lk, N.xe, N.nav⟩
theorem lc_imp {ws vs : List Nat} {wi : TI} (hwi : ∀ B E σ H r M O k R', Rep X B E σ H r M O → gi r M k → (∀ ds M1 H1 O1 J, k ds M1 → Rep X B E σ H1 r M1 O1 → Rl p M O H M1 O1 H1 → WalkQ p X B H1 M1 O1 J ds → R' J H1) → wi σ H R')
    (hgm : ∀ d r M Q Q', (∀ r' M', Q r' M' → Q' r' M') → gt d r M Q → gt d r M Q') (htm : ∀ r M Q Q', (∀ d M', Q d M' → Q' d M') → gtt r M Q → gtt r M Q') (hem : ∀ r M Q Q', (∀ d M', Q d M' → Q' d M') → ge r M Q → ge r M Q') (hgs : SameM ws gt)
    (hws : ∀ j ∈ ws, j ∈ vs) (σ : L2.St) (H : Hp) (Q : VK) (hh : ∃ B E r M O, Rep X B E σ H r M O ∧ gLc gi gt gtt ge vs r M (fun m M' => ∀ a H' O', New X B E σ H' r M' O' a → Rl p M O H M' O' H' → OOk X.K (Up (Av B M' O') a) H' a m → Q (.ref a) H')) :
    tLc wi (uG X.K ws gt) (uT p X.K gtt) (uE p X.K ge) vs σ H Q := by
  obtain ⟨B, E, r, M, O, R, hno, q⟩ := hh
  refine hwi B E σ H r M O _ _ R q fun ds M1 H1 O1 J k1 R1 l1 W1 => ?_
  intro a n
  refine ⟨fun i m H2 => i + m = ds.length ∧ ∃ M2 O2 acc vs', New X B E σ H2 r M2 O2 a ∧ H2 a = some (.lst vs') ∧ IsL X.K (Up (Av B M2 O2) a) H2 vs' acc ∧ Rl p M1 O1 H1 M2 O2 H2 ∧ lcD gt gtt ge (wipeF r vs) (ds.drop i) acc M2 (fun acc' M' =>
      ∀ a' H' O', New X B E σ H' r M' O' a' → Rl p M O H M' O' H' → OOk X.K (Up (Av B M' O') a') H' a' (.lst acc') → Q (.ref a') H'),
    ⟨ds.length, by omega, M1, O1, [], [], New.of R1 n, upd_same, .nil, Rl.of_same (same_upd n), by rw [List.drop_zero]; exact k1⟩, fun i m H2 ⟨him, M2, O2, acc, vs', N2, e2, i2, l2, q2⟩ => ?_⟩
  obtain ⟨w1, w2⟩ := W1 (Up (Av B M2 O2) a) _ H2 (fun b h => by rw [← av_up]; exact N2.m.fresh h) (fun b o e nb => by
    obtain ⟨h1, h2⟩ := l2.avs b o e nb
    exact ⟨h1, fun z => z.elim h2 fun z => (ne_of_none e n) z⟩) l2.2 (fun e => (l2.1 e).2.2) i
  by_cases hlt : i < ds.length
  · right
    obtain ⟨d, hd⟩ : ∃ d, ds[i]? = some d := ⟨_, List.getElem?_eq_getElem hlt⟩
    obtain ⟨go, yl⟩ := w1 d hd
    have hdrop : ds.drop i = d :: ds.drop (i + 1) := by
      rw [List.drop_eq_getElem_cons hlt]
      rw [List.getElem?_eq_getElem hlt] at hd
      cases hd
      rfl
    rw [hdrop] at q2
    have ha2 : H2 a ≠ none := by rw [e2]; exact fun z => nomatch z
    refine ⟨go, fun H3 => ∃ M2 O2 acc vs', New X B E σ H3 r M2 O2 a ∧ H3 a = some (.lst vs') ∧ IsL X.K (Up (Av B M2 O2) a) H3 vs' acc ∧ Rl p M1 O1 H1 M2 O2 H3 ∧ lcD gt gtt ge (wipeF r vs) (ds.drop (i + 1)) acc M2 (fun acc' M' =>
      ∀ a' H' O', New X B E σ H' r M' O' a' → Rl p M O H M' O' H' → OOk X.K (Up (Av B M' O') a') H' a' (.lst acc') → Q (.ref a') H'), fun H3 h3 => ⟨m - 1, by omega, by omega, h3⟩, fun x H3 hy => ?_⟩
    obtain ⟨sm, ix⟩ := yl x H3 hy
    -- the state at the turn's begin
    have N3 : New X B E σ H3 r M2 O2 a := N2.same sm
    have R3 : RepK X.K (Bp B a) (En.blk H3 M2 O2) (wipe σ vs) H3 (wipeF r vs) M2 O2 := (New.blk (X' := X) rfl N3 vs).k ⟨rfl, rfl⟩
    have e3 : H3 a = some (.lst vs') := sm _ _ e2
    have ha3 : H3 a ≠ none := by rw [e3]; exact fun z => nomatch z
    have i3 : IsL X.K (Up (Av B M2 O2) a) H3 vs' acc := i2.step (step_same sm fun _ z => z)
    have l3 : Rl p M1 O1 H1 M2 O2 H3 := l2.trans (Rl.of_same sm)
    have na : ¬ Mut M2 O2 a := fun z => N3.nav (.inr z)
    refine ⟨Bp B a, En.blk H3 M2 O2, wipeF r vs, M2, O2, d, R3, by rw [av_up]; exact ix, ?_⟩
    refine hgm _ _ _ _ _ (fun r4 M4 q4 => ?_) (hgs _ _ _ _ q2)
    obtain ⟨⟨e4, f4⟩, q4⟩ := q4
    subst e4
    refine ⟨⟨rfl, f4⟩, fun σ4 o4 R4 => ⟨wipe_same o4 hws, Bp B a, En.blk H3 M4 O2, r4, M4, O2, R4, ?_⟩⟩
    refine htm _ _ _ _ (fun b M5 q5 H5 O5 R5 l5 => ?_) q4
    have N5 : New X B E σ H5 r M5 O5 a := N3.turn (X' := X) rfl hws hno o4 f4 l5 R5.rep ha3
    have e5 : H5 a = some (.lst vs') := (l5.2 a _ e3 na).1
    have i5 : IsL X.K (Up (Av B M5 O5) a) H5 vs' acc := i3.step (step_up l5.avs)
    cases b with
    | false =>
      rw [if_neg Bool.false_ne_true] at q5
      refine iteF ?_
      exact ⟨M5, O5, acc, vs', N5, e5, i5, l3.trans l5, q5⟩
    | true =>
      rw [if_pos rfl] at q5
      refine iteT ?_
      refine ⟨Bp B a, En.blk H3 M4 O2, r4, M5, O5, R5, ?_⟩
      refine hem _ _ _ _ (fun y M6 q6 v6 H6 O6 R6 l6 i6 => ?_) q5
      have l56 := l5.trans l6
      have N6 : New X B E σ H6 r M6 O6 a := N3.turn (X' := X) rfl hws hno o4 f4 l56 R6.rep ha3
      have e6 : H6 a = some (.lst vs') := (l56.2 a _ e3 na).1
      have i6' : IsL X.K (Up (Av B M6 O6) a) H6 vs' acc := i3.step (step_up l56.avs)
      have ha6 : H6 a ≠ none := by rw [e6]; exact fun z => nomatch z
      rw [av_up] at i6
      refine ⟨vs', e6, by rw [i6'.length]; exact q6.1, M6, O6, acc ++ [y], vs' ++ [v6], N6.put ha6, upd_same, ?_, (l3.trans l56).put n, q6.2⟩
      have s : Step (Up (Av B M6 O6) a) H6 (Up (Av B M6 O6) a) (upd H6 a (.lst (vs' ++ [v6]))) := fun b o e nb => ⟨by rw [upd_ne (fun z => nb (.inr z))]; exact e, nb⟩
      exact (i6'.append (.cons i6 .nil)).step s
  · left
    have hn : ds.drop i = [] := List.drop_eq_nil_of_le (by omega)
    rw [hn] at q2
    exact ⟨w2 (by omega), q2 a H2 O2 N2 (l1.trans l2) ⟨vs', e2, i2⟩⟩
theorem df_lc {elt : Expr} {ifs : List Expr} {scope : Scope} {own : List (Str × Nat)} {ws : List Nat} (hc : X.calm = true) (hN : X.N.Nodup) (hi : DI p X tg iter gi) (ok : BlkOk X.N X.env.scope scope own)
    (hg : ∀ (s : Shared) (H : Hp) (C : Addr) (cl : List (Str × Addr)) (fp : List Addr), DT' (X.blk s H scope (compEnvC scope cl C X.env) fp) tg ws gt)
    (ht : ∀ (s : Shared) (H : Hp) (C : Addr) (cl : List (Str × Addr)) (fp : List Addr), DTts p (X.blk s H scope (compEnvC scope cl C X.env) fp) ifs gtt)
    (he : ∀ (s : Shared) (H : Hp) (C : Addr) (cl : List (Str × Addr)) (fp : List Addr), DE true p (X.blk s H scope (compEnvC scope cl C X.env) fp) elt ge)
    (hgm : ∀ d r M Q Q', (∀ r' M', Q r' M' → Q' r' M') → gt d r M Q → gt d r M Q') (htm : ∀ r M Q Q', (∀ d M', Q d M' → Q' d M') → gtt r M Q → gtt r M Q') (hem : ∀ r M Q Q', (∀ d M', Q d M' → Q' d M') → ge r M Q → ge r M Q') (hgs : SameM ws gt)
    (hws : ∀ j ∈ ws, j ∈ own.map (·.2)) (hs : ∀ x, foldedSetIterable iter X.env x = pure x := by intro _; rfl) : DF p X (.ListComp elt [⟨tg, iter, ifs, 0⟩] scope pos) (gLc gi gt gtt ge (own.map (·.2))) := by
  obtain ⟨wi, hpi, hwi⟩ := hi.ex
  exact ⟨peI (pe_lc (te := uE p X.K ge) (tt := uT p X.K gtt) (g := uG X.K ws gt) hc hN hpi ok (fun s H C cl fp => (hg s H C cl fp).u) (fun s H C cl fp => (ht s H C cl fp).u) (fun s H C cl fp => (he s H C cl fp).u) hs) (lc_imp (fun B E σ H r M O k R' R q hR => hwi B E σ H r M O k R' R q fun ds M1 H1 O1 J k1 R1 l1 W => hR ds M1 H1 O1 J k1 R1 l1 W.q) hgm htm hem hgs hws),
    fun r M Q Q' h q => ⟨q.1, hi.mono _ _ _ _ (fun ds M1 q1 => lcD_mono hgm htm hem ds _ _ _ _ (fun a M' q2 => h _ _ q2) q1) q.2⟩⟩
end
end DL
set_option Elab.async false
set_option linter.all false
set_option maxRecDepth 100000
namespace DL
open PySem PySem.Spec PyProof.Rows L2
structure FnG (P : Program) (w : World) (K : PySem.W.Frag) (mg : Str → Option Value) (base : Heap) (k : Nat) (f : Addr) (fd : FuncData) (ps : List Str) (sp : Sp) : Prop where
  len : ∀ vs H Q E, sp vs H Q E → vs.length = ps.length
  run : ∀ (A : Around) (outer : List Env) (s : Shared) (H : Hp) (args : Args) (us : List Value) (vs : List V) (Q : VK) (E : XK), Room k A → A.guards = some [] → Env0 P w K mg base A outer s H → BindsTo s fd args (ps.zip us) →
    Vals vs us → sp vs H Q E → codeAny (model P w) A (.call (.ref f) args) (CR (L2.CX P w) outer P w H s Q E) s
section
variable {P : Program} {w : World} {K : PySem.W.Frag} {mg : Str → Option Value} {base : Heap} {j k : Nat} {f : Addr} {fd : FuncData} {ps : List Str} {sp sp' : Sp}
theorem FnG.mono (F : FnG P w K mg base j f fd ps sp) (h : j ≤ k) : FnG P w K mg base k f fd ps sp :=
  ⟨F.len, fun A outer s H args us vs Q E hr => F.run A outer s H args us vs Q E (hr.mono h)⟩
theorem FnG.imp (F : FnG P w K mg base k f fd ps sp) (h : ∀ vs H Q E, sp' vs H Q E → sp vs H Q E) : FnG P w K mg base k f fd ps sp' :=
  ⟨fun vs H Q E q => F.len vs H Q E (h _ _ _ _ q), fun A outer s H args us vs Q E hr hg he hb hv hs => F.run A outer s H args us vs Q E hr hg he hb hv (h _ _ _ _ hs)⟩
theorem fng_of {name qual : Str} {params : Arguments} {body : List Stmt} {scope : Scope} {dV kV doc pm cdv ct oc : Value} {an od : Option Addr} {osl : Array (Option Value)} {N : List Str}
    (lk : K.lookup f = some ⟨oc, od, .func (PySem.W.fnOf name qual params body scope dV kV doc pm an cdv ct), osl⟩) (hcd : PySem.W.codeIn K cdv qual = true) (S : FnScope N ps scope) (len : ∀ vs H Q E, sp vs H Q E → vs.length = ps.length)
    (hbody : ∀ (A : Around) (outer : List Env) (s : Shared) (H : Hp) (vs : List V) (Q : VK) (E : XK), Room k (A.deeper (envOfC qual scope s.heap.objs.size f cdv)) → A.guards = some [] → sp vs H Q E →
      ∃ t, PSs (cxOf (L2.CX P w) P w K mg base N qual scope f cdv A outer s H E) body t ∧ t { nx := fun _ H' => Q .non H', rt := Q } (L2.start N vs) H) :
    FnG P w K mg base (k + 1) f (PySem.W.fnOf name qual params body scope dV kV doc pm an cdv ct) ps sp := by
  refine ⟨len, fun A outer s H args us vs Q E hr hgd e0 hb r hsp => ?_⟩
  have hvl := len _ _ _ _ hsp
  have kIn : K.In s.heap := e0.mod.kin.keeps fun b o e => (e0.bs b o e).1
  have noLim : s.heap.NoLimit := e0.mod.nolimit.keeps fun b o e => (e0.bs b o e).1
  have kinds : ∀ y ∈ ps.zip us, scope.names.lookup y.1 = some .local ∨ (scope.names.lookup y.1 = some .cell ∧ ((cellsFrom (s.heap.objs.size + 1) scope.names []).lookup y.1).isSome = true) := by
    rintro ⟨n, v⟩ hy
    rcases S.par n (List.of_mem_zip hy).1 with q | q
    · exact .inl q
    · exact .inr ⟨q, PySem.W.cellsFrom_some _ _ _ (.inl q)⟩
  refine codeAny_call_function hr.depth (kIn _ _ lk) rfl S.co S.gen rfl (PySem.W.codeRec_of kIn hcd) (hb _ _ _ _ ?_)
  refine wpAny_newFunctionEnv_cells S.kind kinds fun env henv s1 x => ?_
  subst henv
  refine ⟨noLim.keeps x.toInCall.keep, codeAny_func ?_⟩
  obtain ⟨t, ht, hq⟩ := hbody A outer s H vs Q E (hr.deeper _) hgd hsp
  have I := inv_start (CX := L2.CX P w) (E := E) S hr.hd e0 hvl r x
  refine wpAny_mono (ht.run [] s1 (L2.start N vs) H _ I hq) (fun fl s' hs => ?_) fun e s' hs => hs
  cases fl with
  | ret u =>
    obtain ⟨v, σ', H', J, rv, q⟩ := hs
    exact ⟨v, H', J.os, J.bare, J.base, J.hok, rv, q⟩
  | next =>
    obtain ⟨σ', H', J, q⟩ := hs
    exact ⟨V.non, H', J.os, J.bare, J.base, J.hok, rfl, q⟩
  | brk =>
    obtain ⟨_, _, _, q⟩ := hs
    exact q.elim
  | cont =>
    obtain ⟨_, _, _, q⟩ := hs
    exact q.elim
end
/-- how an argument is handed in: as data, lent, the script -/
inductive AK where
  | v | b | s
abbrev FS := List D → Mem → (D → Mem → Prop) → (Addr → Mem → Prop) → Prop
def ArgOk (K : PySem.W.Frag) (A U : Addr → Prop) (H : Hp) (v : V) (d : D) : AK → Prop
  | .v => Is K A H v d
  | .b => match d with
    | .tup ds => ∃ a vs, v = .ref a ∧ TupAt K U H a vs ∧ IsL K A H vs ds
    | .lst ds => ∃ a vs, v = .ref a ∧ LstAt U H a vs ∧ IsL K A H vs ds
    | .dic _ => True
    | d => Is K A H v d
  | .s => ∃ a ns, v = .ref a ∧ d = .lst (ns.map D.int) ∧ ScrAt K U H a ns
def ArgsOk (K : PySem.W.Frag) (A U : Addr → Prop) (H : Hp) : List AK → List V → List D → Prop
  | [], [], [] => True
  | k :: ks, v :: vs, d :: ds => ArgOk K A U H v d k ∧ ArgsOk K A U H ks vs ds
  | _, _, _ => False
/-- no slot's own is in it -/
def Flds (O : Own) : Prop := ∀ a i, O a ≠ some (.slot i)
def toSp (K : PySem.W.Frag) (ks : List AK) (fs : FS) : Sp := fun vs H Q E => ∃ B M O ds, MemOk K B H M O ∧ Flds O ∧ ArgsOk K (Av B M O) (Mut M O) H ks vs ds ∧
  fs ds M (fun d M' => ∀ v H' O', MemOk K B H' M' O' → Flds O' → Step (Mut M O) H (Mut M' O') H' → Is K (Av B M' O') H' v d → Q v H')
    (fun C M' => ∀ H' O', MemOk K B H' M' O' → Flds O' → Step (Mut M O) H (Mut M' O') H' → E (.ref C) none H')
theorem ArgsOk.len {K : PySem.W.Frag} {A U : Addr → Prop} {H : Hp} : ∀ {ks : List AK} {vs : List V} {ds : List D}, ArgsOk K A U H ks vs ds → vs.length = ks.length
  | [], [], [], _ => rfl
  | _ :: ks, _ :: vs, _ :: ds, h => congrArg (· + 1) (ArgsOk.len h.2)
  | [], [], _ :: _, h => h.elim
  | [], _ :: _, [], h => h.elim
  | [], _ :: _, _ :: _, h => h.elim
  | _ :: _, [], [], h => h.elim
  | _ :: _, [], _ :: _, h => h.elim
  | _ :: _, _ :: _, [], h => h.elim
theorem ArgsOk.len2 {K : PySem.W.Frag} {A U : Addr → Prop} {H : Hp} : ∀ {ks : List AK} {vs : List V} {ds : List D}, ArgsOk K A U H ks vs ds → ds.length = ks.length
  | [], [], [], _ => rfl
  | _ :: ks, _ :: vs, _ :: ds, h => congrArg (· + 1) (ArgsOk.len2 h.2)
  | [], [], _ :: _, h => h.elim
  | [], _ :: _, [], h => h.elim
  | [], _ :: _, _ :: _, h => h.elim
  | _ :: _, [], [], h => h.elim
  | _ :: _, [], _ :: _, h => h.elim
  | _ :: _, _ :: _, [], h => h.elim
/-- the slots at the entry -/
def aSl : AK → D → Sl
  | .v, d => .v d
  | .b, .tup ds => .b true ds
  | .b, .lst ds => .b false ds
  | .b, .dic _ => .n
  | .b, d => .v d
  | .s, .lst ds => match intsOf ds with
    | some ns => .s ns
    | none => .n
  | .s, _ => .n
def aSls : List AK → List D → List Sl
  | k :: ks, d :: ds => aSl k d :: aSls ks ds
  | _, _ => []
def entry (n : Nat) (ks : List AK) (ds : List D) (X : Addr → Mem → Prop) : Fr := ⟨aSls ks ds ++ List.replicate (n - ks.length) .n, X⟩
theorem argSl {K : PySem.W.Frag} {B : Addr → Prop} {M : Mem} {O : Own} {H : Hp} {v : V} {d : D} {i : Nat} : ∀ {k : AK}, ArgOk K (Av B M O) (Mut M O) H v d k → SlOk K B H M O i (some v) (aSl k d)
  | .v, h => ⟨v, rfl, h⟩
  | .b, h => by
    cases d with
    | tup ds =>
      obtain ⟨a, vs, e, h1, h2⟩ := h
      exact ⟨a, vs, by rw [e], h1, h2⟩
    | lst ds =>
      obtain ⟨a, vs, e, h1, h2⟩ := h
      exact ⟨a, vs, by rw [e], h1, h2⟩
    | dic ds => trivial
    | _ => exact ⟨v, rfl, h⟩
  | .s, h => by
    obtain ⟨a, ns, e, e2, h⟩ := h
    subst e2
    show SlOk K B H M O i (some v) (match intsOf (ns.map D.int) with
      | some ns => Sl.s ns
      | none => Sl.n)
    rw [intsOf_map]
    exact ⟨a, by rw [e], h⟩
theorem argSls {K : PySem.W.Frag} {B : Addr → Prop} {M : Mem} {O : Own} {H : Hp} : ∀ {ks : List AK} {vs : List V} {ds : List D}, ArgsOk K (Av B M O) (Mut M O) H ks vs ds → (aSls ks ds).length = vs.length ∧ ∀ (i : Nat) (s : Sl), (aSls ks ds)[i]? = some s → ∃ v, vs[i]? = some v ∧ ∀ j, SlOk K B H M O j (some v) s
  | [], [], [], _ => ⟨rfl, fun i s e => by simp [aSls] at e⟩
  | k :: ks, v :: vs, d :: ds, h => by
    obtain ⟨h1, h2⟩ := argSls h.2
    refine ⟨congrArg (· + 1) h1, fun i s e => ?_⟩
    cases i with
    | zero =>
      have e : some (aSl k d) = some s := e
      cases e
      exact ⟨v, rfl, fun j => argSl h.1⟩
    | succ i => exact h2 i s e
  | [], [], _ :: _, h => h.elim
  | [], _ :: _, [], h => h.elim
  | [], _ :: _, _ :: _, h => h.elim
  | _ :: _, [], [], h => h.elim
  | _ :: _, [], _ :: _, h => h.elim
  | _ :: _, _ :: _, [], h => h.elim
def drops (O : Own) : Own := fun a => match O a with
  | some (.fld b f) => some (.fld b f)
  | _ => none
theorem drops_flds (O : Own) : Flds (drops O) := fun a i z => by
  unfold drops at z
  split at z <;> cases z
theorem mut_drops {M : Mem} {O : Own} (b : Addr) (z : Mut M (drops O) b) : Mut M O b := by
  rcases z with z | z
  · exact .inl z
  · refine .inr fun e => z ?_
    unfold drops
    rw [e]
theorem MemOk.drops {K : PySem.W.Frag} {B : Addr → Prop} {H : Hp} {M : Mem} {O : Own} (m : MemOk K B H M O) : MemOk K B H M (drops O) := by
  have s : Step (Av B M O) H (Av B M (DL.drops O)) H := step_id fun b _ n z => n (z.elim .inl fun z => .inr (mut_drops b z))
  refine ⟨fun b mo e => ?_, fun b w e => ?_, m.btr⟩
  · obtain ⟨h1, h2, h3⟩ := m.mem b mo e
    refine ⟨h1, by unfold DL.drops; rw [h2], h3.stepS s (fun _ e => e) fun l f q => ⟨by unfold DL.drops; rw [q], fun _ e => e⟩⟩
  · unfold DL.drops at e
    split at e
    · rename_i q
      exact m.own b _ q
    · cases e
def MonoF (fs : FS) : Prop := ∀ ds M Q Q' X X', (∀ d M', Q d M' → Q' d M') → (∀ C M', X C M' → X' C M') → fs ds M Q X → fs ds M Q' X'
section
variable {P : Program} {w : World} {K : PySem.W.Frag} {mg : Str → Option Value} {base : Heap} {j k : Nat} {f : Addr} {fd : FuncData} {ps : List Str} {fs : FS} {ks : List AK}
/-- THE RULE for a def: its body's derivation, and that its reading is what the promise asks -/
theorem d_fnC {x qual : Str} {st : Stmt} {N : List Str} {g : GS} (F : Fun K x qual st f fd) (S : FnScope N ps (defScope st)) (hk : ks.length = ps.length)
    (hbody : ∀ (cdv : Value), fd.code = cdv → ∀ (A : Around) (outer : List Env) (s : Shared) (H : Hp) (E : XK), Room k (A.deeper (envOfC qual (defScope st) s.heap.objs.size f cdv)) → A.guards = some [] →
      DSs (cxOf (L2.CX P w) P w K mg base N qual (defScope st) f cdv A outer s H E) (defBody st) g)
    (hfs : ∀ ds M Q X, fs ds M Q X → ds.length = ks.length → g { nx := fun _ M' => Q .non M', rt := Q } (entry N.length ks ds X) M) : FnG P w K mg base (k + 1) f fd ps (toSp K ks fs) := by
  obtain ⟨oc, od, kV, doc, pm, an, cdv, ct, osl, rfl, lk, hcd⟩ := F.ex
  refine fng_of lk hcd S (fun vs H Q E h => ?_) fun A outer s H vs Q E hr hgd hsp => ?_
  · obtain ⟨B, M, O, ds, _, _, h, _⟩ := h
    rw [h.len, hk]
  · obtain ⟨B, M, O, ds, hm, hO, ha, hq⟩ := hsp
    have hd := hbody cdv rfl A outer s H E hr hgd
    refine ⟨_, hd.run, B, ⟨B, H, Mut M O, fun C M' => ∀ H' O', MemOk K B H' M' O' → Flds O' → Step (Mut M O) H (Mut M' O') H' → E (.ref C) none H', fun C H' => E (.ref C) none H'⟩, entry N.length ks ds _, M, O, ⟨hm, ?_, fun i s e => ?_, Step.refl _ _, fun _ z => z, fun C M' H' O' h1 h2 h3 => h3 H' (drops O') h1.drops (drops_flds _) (h2.trans (step_id fun b _ n z => n (mut_drops b z))), ?_, rfl⟩, ?_⟩
    · show (L2.start N vs).length = (aSls ks ds ++ List.replicate (N.length - ks.length) Sl.n).length
      unfold L2.start
      rw [List.length_append, List.length_append, List.length_map, List.length_replicate, List.length_replicate, (argSls ha).1, ha.len]
    · have e : (aSls ks ds ++ List.replicate (N.length - ks.length) Sl.n)[i]? = some s := e
      by_cases hi : i < (aSls ks ds).length
      · rw [List.getElem?_append_left hi] at e
        obtain ⟨v, hv, q⟩ := (argSls ha).2 i s e
        have e2 : (L2.start N vs)[i]? = some (some v) := by
          unfold L2.start
          rw [List.getElem?_append_left (by rw [List.length_map, ← (argSls ha).1]; exact hi), List.getElem?_map, hv]
          rfl
        rw [e2]
        exact q i
      · rw [List.getElem?_append_right (by omega), List.getElem?_replicate] at e
        split at e
        · cases e
          trivial
        · cases e
    · exact (takes_of rfl rfl rfl rfl).imp fun cls d σ H h => by
        obtain ⟨C, e1, e2, h⟩ := h
        subst e1; subst e2
        exact h
    · refine hd.mono { nx := fun _ M' => (fun d M' => ∀ v H' O', MemOk K B H' M' O' → Flds O' → Step (Mut M O) H (Mut M' O') H' → Is K (Av B M' O') H' v d → Q v H') .non M', rt := fun d M' => ∀ v H' O', MemOk K B H' M' O' → Flds O' → Step (Mut M O) H (Mut M' O') H' → Is K (Av B M' O') H' v d → Q v H' } _ _ _ ⟨fun r' M' q σ' H' O' R' => ?_, fun d M' q v H' O' h1 h2 h3 => ?_, fun _ _ z => z.elim, fun _ _ z => z.elim⟩ (hfs ds M _ _ hq ha.len2)
      · exact q .non H' (drops O') R'.m.drops (drops_flds _) (R'.ent.trans (step_id fun b _ n z => n (mut_drops b z))) .non
      · exact q v H' (drops O') h1.drops (drops_flds _) (h2.trans (step_id fun b _ n z => n (mut_drops b z))) (h3.step (step_id fun b _ n z => n (z.elim .inl fun z => .inr (mut_drops b z))))
theorem d_fn {x qual : Str} {st : Stmt} {N : List Str} {g : GS} (F : Fun K x qual st f fd) (S : FnScope N ps (defScope st)) (hk : ks.length = ps.length)
    (hbody : ∀ (cdv : Value) (A : Around) (outer : List Env) (s : Shared) (H : Hp) (E : XK), Room k (A.deeper (envOfC qual (defScope st) s.heap.objs.size f cdv)) → A.guards = some [] →
      DSs (cxOf (L2.CX P w) P w K mg base N qual (defScope st) f cdv A outer s H E) (defBody st) g)
    (hfs : ∀ ds M Q X, fs ds M Q X → ds.length = ks.length → g { nx := fun _ M' => Q .non M', rt := Q } (entry N.length ks ds X) M) : FnG P w K mg base (k + 1) f fd ps (toSp K ks fs) :=
  d_fnC F S hk (fun cdv _ => hbody cdv) hfs
end
end DL
set_option Elab.async false
set_option linter.all false
set_option maxRecDepth 100000
namespace DL
open PySem PySem.Spec PyProof.Rows L2
def ArgX (K : PySem.W.Frag) (A U : Addr → Prop) (H : Hp) (v : V) (d : D) : AK → Prop
  | .v => Is K A H v d
  | .b => Is1 K A H v d
  | .s => ∃ a ns, v = .ref a ∧ d = .lst (ns.map D.int) ∧ ScrAt K U H a ns
def ArgsX (K : PySem.W.Frag) (A U : Addr → Prop) (H : Hp) : List AK → List V → List D → Prop
  | [], [], [] => True
  | k :: ks, v :: vs, d :: ds => ArgX K A U H v d k ∧ ArgsX K A U H ks vs ds
  | _, _, _ => False
def AK.w : AK → Bool
  | .b => false
  | _ => true
section
variable {X : Cx} {w p : Bool} {e : Expr} {es : List Expr} {g : GE} {gs : GA} {B : Addr → Prop} {E : En} {σ : L2.St} {H H' : Hp} {r : Fr} {M M' : Mem} {O O' : Own} {pos : Pos} {k : AK} {ks : List AK}
def LAk (p : Bool) (X : Cx) (ks : List AK) (B : Addr → Prop) (E : En) (σ : L2.St) (r : Fr) (H : Hp) (M : Mem) (O : Own) (Q : List V → Hp → Prop) : List D → Mem → Prop := fun ds M' =>
  ∀ vs H' O', Rep X B E σ H' r M' O' → Rl p M O H M' O' H' → ArgsX X.K (Av B M' O') (Mut M' O') H' ks vs ds → Q vs H'
structure DAk (p : Bool) (X : Cx) (ks : List AK) (es : List Expr) (g : GA) : Prop where
  run : PA X es (fun σ H Q => ∃ B E r M O, Rep X B E σ H r M O ∧ g r M (LAk p X ks B E σ r H M O Q))
  mono : ∀ r M Q Q', (∀ d M', Q d M' → Q' d M') → g r M Q → g r M Q'
theorem DAk.on (ha : DAk p X ks es gs) (R : Rep X B E σ H r M O) {kk : List D → Mem → Prop} (h : gs r M kk) {Q : List V → Hp → Prop}
    (hk : ∀ d M1 v H1 O1, kk d M1 → Rep X B E σ H1 r M1 O1 → Rl p M O H M1 O1 H1 → ArgsX X.K (Av B M1 O1) (Mut M1 O1) H1 ks v d → Q v H1) :
    ∃ B E r M O, Rep X B E σ H r M O ∧ gs r M (LAk p X ks B E σ r H M O Q) :=
  ⟨B, E, r, M, O, R, ha.mono r M _ _ (fun d M1 h1 v H1 O1 R1 l1 i1 => hk d M1 v H1 O1 h1 R1 l1 i1) h⟩
theorem argX_of (hk : k = .v ∨ k = .b) {A U : Addr → Prop} {v : V} {d : D} (h : IsX k.w X.K A H v d) : ArgX X.K A U H v d k := by
  rcases hk with rfl | rfl
  · exact h
  · exact h
theorem dak_cons (ha : DE k.w p X e g) (hr : DAk p X ks es gs) (hk : k = .v ∨ k = .b := by first | exact .inl rfl | exact .inr rfl) (hw : (k.w || p) = true := by first | rfl | exact Bool.or_true _) (hs : starEach (e :: es) X.env = (false, eval e X.env) :: starEach es X.env := by rfl) : DAk p X (k :: ks) (e :: es) (gCons g gs) := by
  refine ⟨paI (pa_cons ha.run hr.run hs) fun σ H Q ⟨B, E, r, M, O, R, q⟩ => ?_, fun r M Q Q' h q => ha.mono r M _ _ (fun d M1 q1 => hr.mono r M1 _ _ (fun ds M2 q2 => h _ _ q2) q1) q⟩
  refine ha.on R q fun d M1 v H1 O1 k1 R1 l1 i1 => ?_
  refine hr.on R1 k1 fun ds M2 vs H2 O2 k2 R2 l2 i2 => ?_
  exact k2 (v :: vs) H2 O2 R2 (l1.trans l2) ⟨argX_of hk (IsX.next hw l2 i1), i2⟩
theorem dak_one (ha : DE k.w p X e g) (hk : k = .v ∨ k = .b := by first | exact .inl rfl | exact .inr rfl) (hs : starEach [e] X.env = (false, eval e X.env) :: starEach [] X.env := by rfl) : DAk p X [k] [e] (gCons g gNil) := by
  refine ⟨paI (pa_cons ha.run pa_nil hs) fun σ H Q ⟨B, E, r, M, O, R, q⟩ => ?_, fun r M Q Q' h q => ha.mono r M _ _ (fun d M1 q1 => h _ _ q1) q⟩
  exact ha.on R q fun d M1 v H1 O1 k1 R1 l1 i1 => k1 [v] H1 O1 R1 l1 ⟨argX_of hk i1, trivial⟩
/-- the script handed on -/
def gScr (i : Nat) : GA := fun r M Q => match r.sl[i]? with
  | some (.s ns) => Q [.lst (ns.map D.int)] M
  | _ => False
theorem dak_scr (i : Nat) {x : Str} (hN : X.N[i]? = some x := by rfl) (hv : Vis X.env.scope x := by first | exact Or.inl rfl | exact Or.inr (Or.inl rfl) | exact Or.inr (Or.inr rfl)) (hd : (x == ("__debug__" : Str)) = false := by decide)
    (hcd : (x == ("__classdict__" : Str)) = false := by decide) (hs : starEach [Expr.Name x pos] X.env = (false, eval (.Name x pos) X.env) :: starEach [] X.env := by rfl) : DAk p X [.s] [.Name x pos] (gScr i) := by
  refine ⟨paI (pa_cons (pe_var hN hv hd hcd) pa_nil hs) fun σ H Q ⟨B, E, r, M, O, R, q⟩ => ?_, fun r M Q Q' h q => ?_⟩
  · unfold gScr at q
    split at q
    · rename_i ns er
      obtain ⟨x, e1, a, e2, h⟩ := R.slot er
      subst e2
      exact ⟨_, e1, q [_] H O R Rl.refl ⟨⟨a, ns, rfl, rfl, h⟩, trivial⟩⟩
    · exact q.elim
  · unfold gScr at q ⊢
    split at q
    · exact h _ _ q
    · exact q.elim
/-- len(script) -/
def gLenS (i : Nat) : GE := fun r M Q => match r.sl[i]? with
  | some (.s ns) => Q (.int ns.length) M
  | _ => False
theorem de_lenS (i : Nat) {x : Str} {px pf : Pos} (hg : Gl X "len") (hm : X.mg "len" = none) (hN : X.N[i]? = some x := by rfl) (hv : Vis X.env.scope x := by first | exact Or.inl rfl | exact Or.inr (Or.inl rfl) | exact Or.inr (Or.inr rfl)) (hd : (x == ("__debug__" : Str)) = false := by decide)
    (hcd : (x == ("__classdict__" : Str)) = false := by decide) (hs : starEach [Expr.Name x px] X.env = (false, eval (.Name x px) X.env) :: starEach [] X.env := by rfl) (hpl : (backTo pos (starEach [] X.env)).any (·.1) = false := by rfl) :
    DE true p X (.Call (.Name "len" pf) [.Name x px] [] pos) (gLenS i) := by
  refine ⟨peI (pe_callB call_len hg hm PySem.boot_len (pa_cons (pe_var hN hv hd hcd) pa_nil hs) (by decide) (by decide) hs hpl) fun σ H Q ⟨B, E, r, M, O, R, q⟩ => ?_, fun r M Q Q' h q => ?_⟩
  · unfold gLenS at q
    split at q
    · rename_i ns er
      obtain ⟨x, e1, a, e2, h⟩ := R.slot er
      subst e2
      exact ⟨_, e1, .ref a, _, rfl, .inl ⟨_, h.sq, rfl⟩, by rw [List.length_map]; exact fin_v R (.int _) q⟩
    · exact q.elim
  · unfold gLenS at q ⊢
    split at q
    · exact h _ _ q
    · exact q.elim
theorem run_fg {n : Nat} {f : Addr} {fd : FuncData} {ps : List Str} {sp : Sp} {Ex : XK} {pins : List (Addr × Obj)} {s : Shared} {Q : VK} {us : List Value} {vs : List V} (F : FnG X.prog X.w X.K X.mg X.base n f fd ps sp) (hr : Room n X.A) (hgd : X.A.guards = some [])
    (hb : Binds X.K fd ps []) (hx : Passes (L2.CX X.prog X.w) X Ex) (I : Inv X pins σ H s) (rv : Vals vs us) (h : sp vs H Q Ex) : wpAny (model X.prog X.w) X.A (call (.ref f) us) (EP X pins σ Q) X.xe s := by
  have hlen : (us ++ []).length = ps.length := by rw [List.append_nil, ← rv.length]; exact F.len _ _ _ _ h
  have hbd := hb s us I.kIn hlen
  rw [List.append_nil] at hbd
  refine wpAny_call (codeAny_mono (F.run X.A X.stack s H ⟨us, []⟩ us vs Q Ex hr hgd I.env0 hbd rv h) fun r s' hq => ?_)
  cases r with
  | error e => exact hx pins σ H s e s' I hq
  | ok fl =>
    cases fl with
    | ret u => exact I.after hq
    | next => exact hq.elim
    | brk => exact hq.elim
    | cont => exact hq.elim
theorem MemOk.subB {B0 : Addr → Prop} {K : PySem.W.Frag} (m : MemOk K B H M O) (h : ∀ b, B0 b → B b) : MemOk K B0 H M O := by
  have s : Step (Av B M O) H (Av B0 M O) H := step_id fun b _ n z => n (z.elim (fun z => .inl (h b z)) .inr)
  refine ⟨fun b mo e => ?_, fun b w e => ?_, fun b z => m.btr b (h b z)⟩
  · obtain ⟨h1, h2, h3⟩ := m.mem b mo e
    exact ⟨fun z => h1 (h b z), h2, h3.stepS s (fun _ e => e) fun l f q => ⟨q, fun _ e => e⟩⟩
  · exact ⟨fun z => (m.own b w e).1 (h b z), (m.own b w e).2⟩
def M0 : Mem := fun _ => none
def O0 : Own := fun _ => none
theorem mut0 (b : Addr) : ¬ Mut M0 O0 b := fun z => z.elim (fun z => z rfl) fun z => z rfl
theorem av0 {B : Addr → Prop} : Av B M0 O0 = B := by
  funext b
  apply propext
  exact ⟨fun z => z.elim _root_.id fun z => (mut0 b z).elim, .inl⟩
theorem argOk0 {A U : Addr → Prop} {K : PySem.W.Frag} {v : V} {d : D} : ∀ {k : AK}, ArgX K A U H v d k → ArgOk K A (Mut M0 O0) H v d k
  | .v, h => h
  | .b, h => by
    cases d with
    | tup ds =>
      obtain ⟨a, vs, e, h1, h2⟩ := h
      refine ⟨a, vs, e, ?_, h2⟩
      rcases h1 with h1 | h1
      · exact .inl ⟨mut0 a, h1⟩
      · exact .inr h1
    | lst ds =>
      obtain ⟨a, vs, e, h1, h2⟩ := h
      exact ⟨a, vs, e, ⟨mut0 a, h1⟩, h2⟩
    | dic ds => trivial
    | _ => exact h
  | .s, ⟨a, ns, e1, e2, h⟩ => by
    refine ⟨a, ns, e1, e2, ?_⟩
    rcases h with ⟨_, h⟩ | h
    · exact .inl ⟨mut0 a, h⟩
    · exact .inr h
theorem argsOk0 {A U : Addr → Prop} {K : PySem.W.Frag} : ∀ {ks : List AK} {vs : List V} {ds : List D}, ArgsX K A U H ks vs ds → ArgsOk K A (Mut M0 O0) H ks vs ds
  | [], [], [], _ => trivial
  | _ :: _, _ :: _, _ :: _, h => ⟨argOk0 h.1, argsOk0 h.2⟩
  | [], [], _ :: _, h => h.elim
  | [], _ :: _, [], h => h.elim
  | [], _ :: _, _ :: _, h => h.elim
  | _ :: _, [], [], h => h.elim
  | _ :: _, [], _ :: _, h => h.elim
  | _ :: _, _ :: _, [], h => h.elim
/-- a call that is handed no memory: it changes nothing -/
def gCallP (fs : FS) (gs : GA) : GE := fun r M Q => gs r M fun ds M1 => fs ds M0 (fun d _ => Q d M1) fun C _ => r.ex C M1
theorem callP_pre {fs : FS} (R : Rep X B E σ H r M O) {vs : List V} {ds : List D} (ha : ArgsX X.K (Av B M O) (Mut M O) H ks vs ds) {Q : VK} (h : fs ds M0 (fun d _ => LE w p X B E σ r H M O Q d M) fun C _ => r.ex C M) (hmf : MonoF fs) : toSp X.K ks fs vs H Q (xk E.W) := by
  refine ⟨Av B M O, M0, O0, ds, ⟨fun a mo e => (nomatch e), fun a w e => (nomatch e), fun a z n => R.m.fresh n z⟩, fun a i z => (nomatch z), by rw [av0]; exact argsOk0 ha, ?_⟩
  have sm : ∀ {H' : Hp} {M' : Mem} {O' : Own}, Step (Mut M0 O0) H (Mut M' O') H' → Same H H' := fun s a o e => (s a o e (mut0 a)).1
  refine hmf _ _ _ _ _ _ (fun d M' q v H' O' h1 h2 h3 h4 => ?_) (fun C M' q H' O' h1 h2 h3 => ?_) h
  · exact q v H' O (R.same (sm h3)) (Rl.of_same (sm h3)) (IsX.of (h4.step (step_id fun b _ n z => n (.inl z))))
  · refine ⟨C, rfl, rfl, ?_⟩
    have R' := R.same (sm h3)
    refine R.exc C M H' O (R'.m.subB R.sub) R'.ent ?_
    rw [← R.xe]
    exact q
theorem de_callP {n : Nat} {f : Addr} {fd : FuncData} {ps : List Str} {fs : FS} {x : Str} {pf : Pos} (F : FnG X.prog X.w X.K X.mg X.base n f fd ps (toSp X.K ks fs)) (hmf : MonoF fs) (hr : Room n X.A) (hgd : X.A.guards = some []) (hg : Gl X x) (hm : X.mg x = some (.ref f))
    (hk : PySem.W.keepIn X.K (.ref f) = true) (hb : Binds X.K fd ps []) (ha : DAk p X ks (e :: es) gs) (hdb : (x == ("__debug__" : Str)) = false := by decide) (he : starEach (e :: es) X.env = (false, eval e X.env) :: starEach es X.env := by rfl)
    (hpl : (backTo pos (starEach es X.env)).any (·.1) = false := by rfl) : DE true p X (.Call (.Name x pf) (e :: es) [] pos) (gCallP fs gs) := by
  refine ⟨⟨fun pins s σ H Q I ⟨B, E, r, M, O, R, q⟩ => ?_⟩, fun r M Q Q' h q => ha.mono _ _ _ _ (fun ds M1 q1 => hmf _ _ _ _ _ _ (fun d M' q2 => h _ _ q2) (fun C M' q2 => q2) q1) q⟩
  refine wpAny_Call_Name_kw (ld_glob I hg hm ?_ hdb)
  have hq := ha.on R q (Q := fun vs H1 => Passes (L2.CX X.prog X.w) X (xk E.W) ∧ toSp X.K ks fs vs H1 Q (xk E.W)) fun ds M1 vs H1 O1 k1 R1 l1 i1 => ⟨R1.ps, callP_pre R1 i1 (hmf _ _ _ _ _ _ (fun d M' q2 => LE.go l1 q2) (fun C M' q2 => q2) k1) hmf⟩
  refine PySem.W.callWith_K (h₀ := X.base) I.ok.mod.kin hk (thn (ha.run.run pos pins s σ H _ I hq) fun us s1 ⟨vs, H1, I1, r1, lk, qq⟩ => ⟨I1.kIn, ?_⟩) he hpl
  exact run_fg F hr hgd hb lk I1 r1 qq
/-- a call that may change the memory -/
def slots (O : Own) (b : Addr) : Prop := ∃ i, O b = some (.slot i)
def Bs (B : Addr → Prop) (O : Own) : Addr → Prop := fun b => B b ∨ slots O b
theorem av_bs : Av (Bs B O) M (drops O) = Av B M O := by
  funext b
  apply propext
  constructor
  · rintro ((h | ⟨i, h⟩) | h)
    · exact .inl h
    · exact .inr (.inr (by rw [h]; simp))
    · exact .inr (mut_drops b h)
  · rintro (h | h | h)
    · exact .inl (.inl h)
    · exact .inr (.inl h)
    · cases e : O b with
      | none => exact absurd e h
      | some w =>
        cases w with
        | slot i => exact .inl (.inr ⟨i, e⟩)
        | fld a f => exact .inr (.inr (by unfold drops; rw [e]; simp))
/-- the slots' own as they were, the fields' as they are now -/
def back (O O' : Own) : Own := fun b => match O b with
  | some (.slot i) => some (.slot i)
  | _ => O' b
theorem back_slot {b : Addr} {i : Nat} (h : O b = some (.slot i)) : back O O' b = some (.slot i) := by unfold back; rw [h]
theorem back_none {b : Addr} (h : ¬ slots O b) : back O O' b = O' b := by
  unfold back
  cases e : O b with
  | none => rfl
  | some w =>
    cases w with
    | slot i => exact (h ⟨i, e⟩).elim
    | fld a f => rfl
theorem Rep.called (R : Rep X B E σ H r M O) (m : MemOk X.K (Bs B O) H' M' O') (s : Step (Mut M (drops O)) H (Mut M' O') H') : Rep X B E σ H' r M' (back O O') ∧ Step (Mut M O) H (Mut M' (back O O')) H' ∧ Av B M' (back O O') = Av (Bs B O) M' O' := by
  have hav : Av B M' (back O O') = Av (Bs B O) M' O' := by
    funext b
    apply propext
    by_cases hs : slots O b
    · obtain ⟨i, hi⟩ := hs
      exact ⟨fun _ => .inl (.inr ⟨i, hi⟩), fun _ => .inr (.inr (by rw [back_slot hi]; simp))⟩
    · unfold Av Mut Bs
      rw [back_none hs]
      constructor
      · rintro (h | h)
        · exact .inl (.inl h)
        · exact .inr h
      · rintro ((h | h) | h)
        · exact .inl h
        · exact (hs h).elim
        · exact .inr h
  have sl : ∀ {b : Addr} {o : HO}, slots O b → H b = some o → H' b = some o ∧ ¬ Mut M' O' b := fun {b o} hs e => s b o e fun z => by
    obtain ⟨i, hi⟩ := hs
    rcases z with z | z
    · cases q : M b with
      | none => exact z q
      | some mo => have := (R.m.mem b mo q).2.1; rw [hi] at this; cases this
    · unfold drops at z; rw [hi] at z; exact z rfl
  have sm : Step (Mut M O) H (Mut M' (back O O')) H' := fun b o e n => by
    have n1 : ¬ Mut M (drops O) b := fun z => n (mut_drops b z)
    obtain ⟨h1, h2⟩ := s b o e n1
    refine ⟨h1, fun z => ?_⟩
    have hs : ¬ slots O b := fun ⟨i, hi⟩ => n (.inr (by rw [hi]; simp))
    rcases z with z | z
    · exact h2 (.inl z)
    · rw [back_none hs] at z; exact h2 (.inr z)
  have sa : Step (Av B M O) H (Av B M' (back O O')) H' := fun b o e n =>
    have n1 : ¬ B b := fun z => n (.inl z)
    have ⟨h1, h2⟩ := sm b o e fun z => n (.inr z)
    ⟨h1, fun z => z.elim n1 h2⟩
  refine ⟨⟨⟨fun b mo e => ?_, fun b w e => ?_, fun b z => m.btr b (.inl z)⟩, R.len, fun i x e => ?_, R.ent.trans sm, R.sub, R.exc, R.lk, R.xe⟩, sm, hav⟩
  · obtain ⟨h1, h2, h3⟩ := m.mem b mo e
    have hs : ¬ slots O b := fun z => h1 (.inr z)
    refine ⟨fun z => h1 (.inl z), by rw [back_none hs]; exact h2, ?_⟩
    rw [hav]
    refine h3.stepS (Step.refl _ _) (fun _ e => e) fun l f q => ⟨?_, fun _ e => e⟩
    rw [back_none fun z => (m.own l _ q).1 (.inr z)]
    exact q
  · by_cases hs : slots O b
    · obtain ⟨i, hi⟩ := hs
      obtain ⟨h1, h2⟩ := R.m.own b _ hi
      refine ⟨h1, ?_⟩
      exact m.btr b (.inr ⟨i, hi⟩)
    · rw [back_none hs] at e
      exact ⟨fun z => (m.own b w e).1 (.inl z), (m.own b w e).2⟩
  · exact (R.sl i x e).stepS sa sm fun l q => ⟨back_slot q, fun o e => (sl ⟨i, q⟩ e).1⟩
def gCallM (fs : FS) (gs : GA) : GE := fun r M Q => gs r M fun ds M1 => fs ds M1 Q r.ex
def vks (ks : List AK) : Bool := ks.all fun k => match k with
  | .b => false
  | _ => true
theorem argsOkM {A U U' : Addr → Prop} {K : PySem.W.Frag} (hU : ∀ b, U' b → U b) : ∀ {ks : List AK} {vs : List V} {ds : List D}, vks ks = true → ArgsX K A U H ks vs ds → ArgsOk K A U' H ks vs ds
  | [], [], [], _, _ => trivial
  | .v :: _, _ :: _, _ :: _, h, q => ⟨q.1, argsOkM hU (by simpa [vks] using h) q.2⟩
  | .s :: _, _ :: _, _ :: _, h, q => by
    obtain ⟨⟨a, ns, e1, e2, h3⟩, q2⟩ := q
    exact ⟨⟨a, ns, e1, e2, h3.step (step_id fun b _ n z => n (hU b z))⟩, argsOkM hU (by simpa [vks] using h) q2⟩
  | .b :: _, _ :: _, _ :: _, h, _ => by simp [vks] at h
  | [], [], _ :: _, _, h => h.elim
  | [], _ :: _, [], _, h => h.elim
  | [], _ :: _, _ :: _, _, h => h.elim
  | _ :: _, [], [], _, h => h.elim
  | _ :: _, [], _ :: _, _, h => h.elim
  | _ :: _, _ :: _, [], _, h => h.elim
theorem callM_pre {fs : FS} (R : Rep X B E σ H r M O) {vs : List V} {ds : List D} (hk : vks ks = true) (ha : ArgsX X.K (Av B M O) (Mut M O) H ks vs ds) {Q : VK} (h : fs ds M (LE true false X B E σ r H M O Q) r.ex) (hmf : MonoF fs) : toSp X.K ks fs vs H Q (xk E.W) := by
  refine ⟨Bs B O, M, drops O, ds, ?_, drops_flds O, by rw [av_bs]; exact argsOkM (fun b z => mut_drops b z) hk ha, ?_⟩
  · refine ⟨fun b mo e => ?_, fun b w e => ?_, fun b z => ?_⟩
    · obtain ⟨h1, h2, h3⟩ := R.m.mem b mo e
      refine ⟨fun z => z.elim h1 fun ⟨i, hi⟩ => (by rw [hi] at h2; cases h2), by unfold drops; rw [h2], ?_⟩
      rw [av_bs]
      exact h3.stepS (Step.refl _ _) (fun _ e => e) fun l f q => ⟨by unfold drops; rw [q], fun _ e => e⟩
    · unfold drops at e
      split at e
      · rename_i q
        cases e
        obtain ⟨h1, h2⟩ := R.m.own b _ q
        exact ⟨fun z => z.elim h1 fun ⟨i, hi⟩ => (by rw [hi] at q; cases q), h2⟩
      · cases e
    · rcases z with z | ⟨i, hi⟩
      · exact R.m.btr b z
      · exact (R.m.own b _ hi).2
  · refine hmf _ _ _ _ _ _ (fun d M' q v H' O' h1 h2 h3 h4 => ?_) (fun C M' q H' O' h1 h2 h3 => ?_) h
    · obtain ⟨R', s', e'⟩ := R.called h1 h3
      refine q v H' _ R' ⟨fun z => (nomatch z), s'⟩ ?_
      rw [e']
      exact h4
    · obtain ⟨R', s', e'⟩ := R.called h1 h3
      refine ⟨C, rfl, rfl, R.exc C M' H' _ (R'.m.subB R.sub) R'.ent ?_⟩
      rw [← R.xe]
      exact q
theorem de_callM {n : Nat} {f : Addr} {fd : FuncData} {ps : List Str} {fs : FS} {x : Str} {pf : Pos} (F : FnG X.prog X.w X.K X.mg X.base n f fd ps (toSp X.K ks fs)) (hmf : MonoF fs) (hr : Room n X.A) (hgd : X.A.guards = some []) (hg : Gl X x) (hm : X.mg x = some (.ref f))
    (hk : PySem.W.keepIn X.K (.ref f) = true) (hb : Binds X.K fd ps []) (ha : DAk false X ks (e :: es) gs) (hv : vks ks = true := by rfl) (hdb : (x == ("__debug__" : Str)) = false := by decide) (he : starEach (e :: es) X.env = (false, eval e X.env) :: starEach es X.env := by rfl)
    (hpl : (backTo pos (starEach es X.env)).any (·.1) = false := by rfl) : DE true false X (.Call (.Name x pf) (e :: es) [] pos) (gCallM fs gs) := by
  refine ⟨⟨fun pins s σ H Q I ⟨B, E, r, M, O, R, q⟩ => ?_⟩, fun r M Q Q' h q => ha.mono _ _ _ _ (fun ds M1 q1 => hmf _ _ _ _ _ _ (fun d M' q2 => h _ _ q2) (fun C M' q2 => q2) q1) q⟩
  refine wpAny_Call_Name_kw (ld_glob I hg hm ?_ hdb)
  have hq := ha.on R q (Q := fun vs H1 => Passes (L2.CX X.prog X.w) X (xk E.W) ∧ toSp X.K ks fs vs H1 Q (xk E.W)) fun ds M1 vs H1 O1 k1 R1 l1 i1 => ⟨R1.ps, callM_pre R1 hv i1 (hmf _ _ _ _ _ _ (fun d M' q2 => LE.go l1 q2) (fun C M' q2 => q2) k1) hmf⟩
  refine PySem.W.callWith_K (h₀ := X.base) I.ok.mod.kin hk (thn (ha.run.run pos pins s σ H _ I hq) fun us s1 ⟨vs, H1, I1, r1, lk, qq⟩ => ⟨I1.kIn, ?_⟩) he hpl
  exact run_fg F hr hgd hb lk I1 r1 qq
end
end DL
set_option Elab.async false
set_option linter.all false
set_option maxRecDepth 100000
namespace DL
open PySem PySem.Spec PyProof.Rows L2
theorem cx_never {P : Program} {w : World} {outer : List Env} {H : Hp} {s : Shared} {e : Value} {s' : Shared} (h : L2.CX P w outer H s (fun _ _ _ => False) e s') : False := by
  obtain ⟨_, _, _, _, _, _, _, _, _, _, _, _, z⟩ := h
  exact z
/-- the law's def, called behind the top at a heap where only the script may be tracked -/
theorem head_call {P : Program} {w : World} {K : PySem.W.Frag} {mg mb : Str → Option Value} {k : Nat} {fa a : Addr} {fd : FuncData} {x : Str} {sp : Sp} {t : Shared} {us : List Value} {ns : List Int}
    (kin : K.In t.heap) (hg : t.heap.Ns mainGlobals mg) (hbi : t.heap.Ns builtinsNs mb) (hboot : ∀ y : Str, y ≠ "__name__" → mb y = bootBuiltins y) (hlim : t.heap.NoLimit) (hgen : t.gens = #[])
    (hat : t.heap.get? a = some { cls := .type "list", data := .seq us.toArray }) (hin : IntsAre us ns) (hle : ns.length ≤ sizeLine) (room : Room k callerA)
    (F : ∀ base : Heap, K.In base → base.Ns mainGlobals mg → FnG P w K mg base k fa fd [x] sp) (bnd : ∀ (s : Shared) (u : Value), BindsTo s fd ⟨[u], []⟩ [(x, u)])
    (hsp : ∀ H : Hp, Only H → SqL K H a (ns.map V.int) → sp [.ref a] H (fun v _ => v = .bl true) fun _ _ _ => False) :
    codeAny (model P w) callerA (.call (.ref fa) ⟨[.ref a], []⟩) (fun r s' => r = .ok (.ret (.bool true)) ∧ OldK t.heap s'.heap ∧ s'.os = t.os ∧ AllBare s'.gens) t := by
  have hv := vals_ints hin
  have hlen := hin.length
  have go : ∀ H : Hp, Only H → SqL K H a (ns.map V.int) → HOk P w H t.heap → (∀ b, H b ≠ none → b = a) → (H a ≠ none → K.lookup a = none) →
      codeAny (model P w) callerA (.call (.ref fa) ⟨[.ref a], []⟩) (fun r s' => r = .ok (.ret (.bool true)) ∧ OldK t.heap s'.heap ∧ s'.os = t.os ∧ AllBare s'.gens) t := by
    intro H only scr hok onlyA notK
    have down : ∀ {b : Addr} {o : Obj}, t.heap.get? b = some o → H b = none → (hidT t.heap H).get? b = some o := fun h1 h2 => hidT_get h1 h2
    have dictFree : ∀ {b : Addr} {o : Obj} {es : Array DictEntry} {ep : Nat}, t.heap.get? b = some o → o.data = .dict es ep → H b = none := by
      intro b o es ep h1 h2
      cases q : H b with
      | none => rfl
      | some u =>
        obtain rfl : b = a := onlyA b (by rw [q]; simp)
        rw [hat] at h1
        cases h1
        exact nomatch (show Data.seq us.toArray _ = Data.dict es ep from h2)
    have nsDown : ∀ {b : Addr} {m : Str → Option Value}, t.heap.Ns b m → (hidT t.heap H).Ns b m := fun {b m} ⟨o, es, ep, h1, h2, h3⟩ => ⟨o, es, ep, down h1 (dictFree h1 h2), h2, h3⟩
    have kinB : K.In (hidT t.heap H) := fun b o h1 => down (kin b o h1) (by
      cases q : H b with
      | none => rfl
      | some u =>
        obtain rfl : b = a := onlyA b (by rw [q]; simp)
        rw [notK (by rw [q]; simp)] at h1
        cases h1)
    have md : Mod K mg (hidT t.heap H) := ⟨kinB, nsDown hg, ⟨mb, nsDown hbi, hboot⟩, let ⟨mc, q1, q2⟩ := hlim; ⟨mc, nsDown q1, q2⟩⟩
    have env : Env0 P w K mg (hidT t.heap H) callerA [] t H := ⟨rfl, md, fun b o h1 => of_hidT h1, Nat.le_of_eq (hidT_size _ _), trivial, fun b hb => (List.not_mem_nil (show b ∈ ([] : List Addr) from hb)).elim, hok, .of_eq hgen⟩
    refine codeAny_mono ((F _ kinB (nsDown hg)).run callerA [] t H ⟨[.ref a], []⟩ [.ref a] [.ref a] _ _ room rfl env (bnd t (.ref a)) (.cons rfl .nil) (hsp H only scr)) fun r s' h => ?_
    cases r with
    | error e => exact (cx_never h).elim
    | ok fl =>
      cases fl with
      | next => exact False.elim h
      | brk => exact False.elim h
      | cont => exact False.elim h
      | ret u =>
        obtain ⟨v, H', os, bare, un, hok', rv, q⟩ := h
        obtain rfl : v = .bl true := q
        obtain rfl : u = Value.bool true := rv
        refine ⟨rfl, OldK.of_keep fun b o h1 => ?_, os, bare⟩
        cases q : H b with
        | none => exact un.keep b o h1 q (by intro z; exact (List.not_mem_nil (show b ∈ ([] : List Addr) from z)).elim) (by simp)
        | some u =>
          rcases only b with z | ⟨ob, xs, z⟩
          · rw [q] at z
            cases z
          · have z2 := un.frzs b ob _ z
            obtain ⟨q1, _⟩ := hok b _ z
            obtain ⟨q2, _⟩ := hok' b _ z2
            rw [h1] at q1
            cases q1
            exact q2
  cases hk : K.lookup a with
  | some o =>
    have h1 := kin a o hk
    rw [hat] at h1
    cases h1
    exact go (fun _ => none) (fun _ => .inl rfl) (.inr ⟨_, us.toArray, _, hk, rfl, rfl, rfl, by rw [List.size_toArray, hlen]; exact hle, by simpa using hv⟩) (fun b u z => nomatch (show (none : Option HO) = some u from z)) (fun b z => absurd rfl z) fun z => absurd rfl z
  | none =>
    let H1 : Hp := fun b => if b = a then some (.frz { cls := .type "list", data := .seq us.toArray } (.lst (ns.map V.int))) else none
    have h0 : H1 a = some (.frz { cls := .type "list", data := .seq us.toArray } (.lst (ns.map V.int))) := if_pos rfl
    have h2 : ∀ b, b ≠ a → H1 b = none := fun b hb => if_neg hb
    refine go H1 (fun b => ?_) (.inl (.inr ⟨_, h0⟩)) (fun b u z => ?_) (fun b z => ?_) fun _ => hk
    · by_cases hb : b = a
      · subst hb
        exact .inr ⟨_, _, h0⟩
      · exact .inl (h2 b hb)
    · by_cases hb : b = a
      · subst hb
        rw [h0] at z
        cases z
        exact ⟨hat, by rw [List.length_map]; exact hle, us, _, hv, hat⟩
      · rw [h2 b hb] at z
        cases z
    · by_cases hb : b = a
      · exact hb
      · exact absurd (h2 b hb) z
/-- the law over a head by facts -/
theorem walk_ofG {l : PySem.W.OpenLaw} {n k : Nat} {q : Program} {loose : List Str} {XP : (Str → Option Value) → Heap → Prop} {YP : World → Heap → Prop} {d : DefRec} {x : Str}
    (hn : l.most = some n) (hn2 : n ≤ sizeLine) (hdf : d.params.defaults = []) (hr : Room k callerA)
    (F : ∀ (w : World) (mg : Str → Option Value) (fa : Addr) (h : Heap), YP w h → h.Ns mainGlobals mg → mg d.name = some (.ref fa) →
      ∃ (K : PySem.W.Frag) (fd : FuncData) (sp : Sp), K.In h ∧ (∀ (s : Shared) (u : Value), BindsTo s fd ⟨[u], []⟩ [(x, u)]) ∧
        (∀ (H : Hp) (a : Addr) (ns : List Int), ns.length ≤ n → Only H → SqL K H a (ns.map V.int) → sp [.ref a] H (fun v _ => v = .bl true) fun _ _ _ => False) ∧
        ∀ base : Heap, K.In base → base.Ns mainGlobals mg → FnG l.prog w K mg base k fa fd [x] sp) :
    PySem.W.WalkO q loose XP YP l.row.toRowW d [] (fun f vs => PySem.call f vs) := by
  refine Att.attach_call hn hdf fun w s0 s1 mg mb fa o pm cd doc a us ns gr Y _ _ _ hmg hobj hints hlen hg => ?_
  obtain ⟨K, fd, sp, kin, hb, hsp, hF⟩ := F w mg fa _ Y gr.T.g hmg
  exact head_call kin gr.T.g gr.T.b gr.T.builtins gr.T.nolimit hg hobj hints (Nat.le_trans hlen hn2) hr hF hb fun H h1 h2 => hsp H a ns hlen h1 h2
theorem only_scr {K : PySem.W.Frag} {H : Hp} {a : Addr} {ns : List Int} {ks : List AK} {fs : FS} (hO : Only H) (hS : SqL K H a (ns.map V.int))
    (h : fs [.lst (ns.map D.int)] M0 (fun d _ => d = .bl true) fun _ _ => False) (hm : MonoF fs) : toSp K [.s] fs [.ref a] H (fun v _ => v = .bl true) fun _ _ _ => False := by
  refine ⟨fun _ => False, M0, O0, [.lst (ns.map D.int)], ⟨fun a mo e => (nomatch e), fun a w e => (nomatch e), fun a z => z.elim⟩, fun a i z => (nomatch z), ⟨⟨a, ns, rfl, rfl, ?_⟩, trivial⟩, ?_⟩
  · rcases hS with h | h
    · exact .inl ⟨mut0 a, h⟩
    · exact .inr (.inr h)
  · refine hm _ _ _ _ _ _ (fun d M' e v H' O' _ _ _ i => ?_) (fun C M' z => z.elim) h
    subst e
    cases i
    rfl
structure Wor (fa : List He.Fa) (fn : List He.DefD) (K : PySem.W.Frag) (mg : Str → Option Value) : Prop where
  ex : ∃ h : Heap, K.In h ∧ h.Ns mainGlobals mg
  c : He.SaysD fa fn K
section
variable {fa : List He.Fa} {fn : List He.DefD} {K : PySem.W.Frag} {mg : Str → Option Value}
theorem Wor.free (W : Wor fa fn K mg) (i : Nat) {x : Str} (h : fa[i]? = some (.free x) := by rfl) : mg x = none :=
  let ⟨_, X, G⟩ := W.ex
  He.free_ok X G (W.c.fact i h)
theorem Wor.glo (W : Wor fa fn K mg) (i : Nat) {x : Str} (h : fa[i]? = some (.glo x) := by rfl) : mg x = some (.ref (He.ga K x)) :=
  let ⟨_, X, G⟩ := W.ex
  He.glo_ok X G (W.c.fact i h)
theorem Wor.int (W : Wor fa fn K mg) (i : Nat) {x : Str} {n : Int} (h : fa[i]? = some (.int x n) := by rfl) : ∃ t, mg x = some (.int n t) :=
  let ⟨_, X, G⟩ := W.ex
  He.int_ok X G (W.c.fact i h)
theorem Wor.str (W : Wor fa fn K mg) (i : Nat) {x z : Str} (h : fa[i]? = some (.str x z) := by rfl) : ∃ t, mg x = some (.str z t) :=
  let ⟨_, X, G⟩ := W.ex
  He.str_ok X G (W.c.fact i h)
end
/-- a class of its own over ValueError, that may be raised -/
structure ExCls (K : PySem.W.Frag) (mg : Str → Option Value) (x : Str) : Prop where
  g : mg x = some (.ref (He.ga K x))
  e : PySem.W.excIn K (He.ga K x) He.veBase "ValueError.__new__" = true ∧ PySem.W.keepIn K (.ref (He.ga K x)) = true ∧ PySem.W.subIn K (.ref (He.ga K x)) (.type "BaseException") = some true ∧ PySem.W.typeIn K (.ref (He.ga K x)) = some (.type "type")
theorem Wor.exc {fa : List He.Fa} {fn : List He.DefD} {K : PySem.W.Frag} {mg : Str → Option Value} (W : Wor fa fn K mg) (i : Nat) {x : Str} (h : fa[i]? = some (.glo x) := by rfl) (h2 : fa[i + 1]? = some (.exc x) := by rfl) : ExCls K mg x :=
  ⟨W.glo i h, He.exc_ok (W.c.fact (i + 1) h2)⟩
/-- a def's promise by its name -/
structure Def (P : Program) (w : World) (K : PySem.W.Frag) (mg : Str → Option Value) (base : Heap) (n : Nat) (x : Str) (ps : List Str) (ks : List AK) (fs : FS) : Prop where
  ex : ∃ f fd, FnG P w K mg base n f fd ps (toSp K ks fs) ∧ mg x = some (.ref f) ∧ PySem.W.keepIn K (.ref f) = true ∧ Binds K fd ps []
  mo : MonoF fs
theorem Wor.def_ {fa : List He.Fa} {fn : List He.DefD} {K : PySem.W.Frag} {mg : Str → Option Value} {P : Program} {w : World} {base : Heap} {k : Nat} {ks : List AK} {fs : FS} {N ps : List Str} {g : GS} (W : Wor fa fn K mg) (i : Nat) {x : Str} {st : Stmt}
    (S : FnScope N ps (defScope st)) (h : fn[i]? = some ⟨(x, none), x, x, defArgs st, defBody st, defScope st, [], []⟩ := by rfl) (h2 : fa[i]? = some (.glo x) := by rfl) (hk : ks.length = ps.length := by rfl)
    (hbd : ∀ (kV doc pm : Value) (an : Option Addr) (cdv ct : Value) (us : List Value), us.length = ps.length → bindArgs (PySem.W.fnOf x x (defArgs st) (defBody st) (defScope st) .none kV doc pm an cdv ct) ⟨us, []⟩ = pure (ps.zip us))
    (hmo : MonoF fs)
    (hbody : ∀ (f : Addr) (cdv : Value) (A : Around) (outer : List Env) (s : Shared) (H : Hp) (E : XK), Room k (A.deeper (envOfC x (defScope st) s.heap.objs.size f cdv)) → A.guards = some [] →
      DSs (cxOf (L2.CX P w) P w K mg base N x (defScope st) f cdv A outer s H E) (defBody st) g)
    (hfs : ∀ ds M Q X, fs ds M Q X → ds.length = ks.length → g { nx := fun _ M' => Q .non M', rt := Q } (entry N.length ks ds X) M) : Def P w K mg base (k + 1) x ps ks fs := by
  obtain ⟨fd, F⟩ := W.c.def_ i h
  have hx := W.glo i h2
  have F1 : Fun K x x st (He.ga K x) fd := He5.fun_of F
  exact ⟨⟨_, fd, d_fn F1 S hk (hbody (He.ga K x)) hfs, hx, F1.kp, F1.binds hbd⟩, hmo⟩
/-- the law's def, over every base -/
theorem Wor.law_ {fa : List He.Fa} {fn : List He.DefD} {K : PySem.W.Frag} {mg : Str → Option Value} {P : Program} {w : World} {k : Nat} {ks : List AK} {fs : FS} {N : List Str} {y : Str} {g : GS} (W : Wor fa fn K mg) (i : Nat) {x : Str} {st : Stmt}
    (S : FnScope N [y] (defScope st)) (h : fn[i]? = some ⟨(x, none), x, x, defArgs st, defBody st, defScope st, [], []⟩ := by rfl) (h2 : fa[i]? = some (.glo x) := by rfl) (hk : ks.length = [y].length := by rfl)
    (hbd : ∀ (kV doc pm : Value) (an : Option Addr) (cdv ct : Value) (us : List Value), us.length = [y].length → bindArgs (PySem.W.fnOf x x (defArgs st) (defBody st) (defScope st) .none kV doc pm an cdv ct) ⟨us, []⟩ = pure ([y].zip us))
    (hbody : ∀ (base : Heap) (f : Addr) (cdv : Value) (A : Around) (outer : List Env) (s : Shared) (H : Hp) (E : XK), Room k (A.deeper (envOfC x (defScope st) s.heap.objs.size f cdv)) → A.guards = some [] →
      DSs (cxOf (L2.CX P w) P w K mg base N x (defScope st) f cdv A outer s H E) (defBody st) g)
    (hfs : ∀ ds M Q X, fs ds M Q X → ds.length = ks.length → g { nx := fun _ M' => Q .non M', rt := Q } (entry N.length ks ds X) M) :
    ∃ f fd, mg x = some (.ref f) ∧ (∀ (s : Shared) (u : Value), BindsTo s fd ⟨[u], []⟩ [(y, u)]) ∧ ∀ base : Heap, FnG P w K mg base (k + 1) f fd [y] (toSp K ks fs) := by
  obtain ⟨fd, F⟩ := W.c.def_ i h
  have F1 : Fun K x x st (He.ga K x) fd := He5.fun_of F
  exact ⟨_, fd, W.glo i h2, fun s u => FunD.bindsA (ps := [y]) F hbd s [u] rfl, fun base => d_fn F1 S hk (hbody base (He.ga K x)) hfs⟩
theorem Def.mono {P : Program} {w : World} {K : PySem.W.Frag} {mg : Str → Option Value} {base : Heap} {j n : Nat} {x : Str} {ps : List Str} {ks : List AK} {fs : FS} (D : Def P w K mg base j x ps ks fs) (h : j ≤ n := by decide) : Def P w K mg base n x ps ks fs :=
  let ⟨f, fd, F, q⟩ := D.ex
  ⟨⟨f, fd, F.mono h, q⟩, D.mo⟩
section
variable {X : Cx} {p : Bool} {e : Expr} {es : List Expr} {gs : GA} {pos pf : Pos} {n : Nat} {x : Str} {ps : List Str} {ks : List AK} {fs : FS}
theorem dc_p (F : Def X.prog X.w X.K X.mg X.base n x ps ks fs) (hr : Room n X.A) (hgd : X.A.guards = some []) (ha : DAk p X ks (e :: es) gs) (hg : Gl X x := by rfl) (hdb : (x == ("__debug__" : Str)) = false := by decide)
    (he : starEach (e :: es) X.env = (false, eval e X.env) :: starEach es X.env := by rfl) (hpl : (backTo pos (starEach es X.env)).any (·.1) = false := by rfl) : DE true p X (.Call (.Name x pf) (e :: es) [] pos) (gCallP fs gs) :=
  let ⟨_, _, F1, hm, hk, hb⟩ := F.ex
  de_callP F1 F.mo hr hgd hg hm hk hb ha hdb he hpl
theorem dc_m (F : Def X.prog X.w X.K X.mg X.base n x ps ks fs) (hr : Room n X.A) (hgd : X.A.guards = some []) (ha : DAk false X ks (e :: es) gs) (hg : Gl X x := by rfl) (hv : vks ks = true := by rfl) (hdb : (x == ("__debug__" : Str)) = false := by decide)
    (he : starEach (e :: es) X.env = (false, eval e X.env) :: starEach es X.env := by rfl) (hpl : (backTo pos (starEach es X.env)).any (·.1) = false := by rfl) : DE true false X (.Call (.Name x pf) (e :: es) [] pos) (gCallM fs gs) :=
  let ⟨_, _, F1, hm, hk, hb⟩ := F.ex
  de_callM F1 F.mo hr hgd hg hm hk hb ha hv hdb he hpl
def gRaise (C : Addr) : GS := fun _ r M => r.ex C M
theorem ds_raise {m : Str} {j : Nat} {p1 p2 : Pos} (T : ExCls X.K X.mg x) (hc : X.calm = true := by rfl) (hg : Gl X x := by rfl) (hdb : (x == ("__debug__" : Str)) = false := by decide) :
    DS X (.Raise (some (.Call (.Name x pf) [.Constant (.str m) j p2] [] p1)) none pos) (gRaise (He.ga X.K x)) := by
  refine ⟨⟨fun pins s σ H D I ⟨B, E, r, M, O, R, q⟩ => ?_⟩, fun D D' r M l q => q⟩
  refine (ps_raise (W := fun cls d _ H => xk E.W cls d H) hc R.lk (pmk_own PySem.F.excBase_ValueError T.e.1 T.g T.e.2.1 (raises_own T.e.2.2.1 T.e.2.2.2) hg hdb)).run pins s σ H D I ⟨_, rfl, rfl, R.exc _ M H O (R.m.subB R.sub) R.ent ?_⟩
  rw [← R.xe]
  exact q
end
theorem dg_int {X : Cx} {p : Bool} {x : Str} {n : Int} {pos : Pos} (h : ∃ t, X.mg x = some (.int n t)) (hg : Gl X x := by rfl) (hd : (x == ("__debug__" : Str)) = false := by decide) : DE true p X (.Name x pos) (gC (.int n)) :=
  let ⟨t, e⟩ := h
  de_glob (v := .int n) hg e ⟨t, rfl⟩ (fun _ _ => .int n) hd
theorem loop_ind {gt : GG} {gb : GS} {D : DEnds} (I : List DL.D → Fr → Mem → Prop) (h0 : ∀ r M, I [] r M → D.nx r M)
    (h1 : ∀ d ds r M, (∀ r M, I ds r M → loopD gt gb ds D r M) → I (d :: ds) r M → gt d r M fun r' M' => gb { D with nx := loopD gt gb ds D, ct := loopD gt gb ds D, bk := D.nx } r' M') :
    ∀ ds r M, I ds r M → loopD gt gb ds D r M
  | [], r, M, h => h0 r M h
  | d :: ds, r, M, h => h1 d ds r M (loop_ind I h0 h1 ds) h
end DL
set_option Elab.async false
set_option linter.all false
set_option maxRecDepth 100000
namespace DL
open PySem PySem.Spec PyProof.Rows L2
section
variable {X : Cx} {w p w1 w2 : Bool} {e a b c : Expr} {es : List Expr} {g ga gb gc : GE} {gf : GF} {gs : GA} {B : Addr → Prop} {E : En} {σ : L2.St} {H H' : Hp} {r : Fr} {M M' : Mem} {O O' : Own} {pos pos' : Pos} {l : Addr}
theorem mut_mup {m : MO} (hm : M l ≠ none) : Mut (mup M l m) O = Mut M O := by
  funext b
  apply propext
  unfold Mut
  by_cases h : b = l
  · subst h; rw [mup_same]; simp [hm]
  · rw [mup_ne h]
theorem av_mup {m : MO} (hm : M l ≠ none) : Av B (mup M l m) O = Av B M O := by
  funext b
  unfold Av
  rw [mut_mup hm]
theorem Rep.mutM (R : Rep X B E σ H r M O) {u : HO} {m m' : MO} (hm : M l = some m) (hu : MOk X.K (Av B M O) (upd H l u) O l m') :
    Rep X B E σ (upd H l u) r (mup M l m') O ∧ Step (Mut M O) H (Mut (mup M l m') O) (upd H l u) := by
  have nm : M l ≠ none := by rw [hm]; simp
  obtain ⟨nB, nO, _⟩ := R.m.mem l m hm
  have mA : Mut M O l := .inl nm
  have keep : ∀ {b : Addr} {o : HO}, b ≠ l → H b = some o → upd H l u b = some o := fun {b o} h e => by rw [upd_ne h]; exact e
  have s : ∀ {A : Addr → Prop}, A l → Step A H A (upd H l u) := fun hA b o e nb => ⟨keep (fun z => nb (by rw [z]; exact hA)) e, nb⟩
  have nown : ∀ {b : Addr} {w : Ow}, O b = some w → b ≠ l := fun {b w} e z => by subst z; rw [nO] at e; cases e
  refine ⟨⟨⟨fun b mo e => ?_, fun b w e => ?_, fun b z => ?_⟩, R.len, fun j sl e => ?_, ?_, R.sub, R.exc, R.lk, R.xe⟩, ?_⟩
  · rw [av_mup nm]
    by_cases hb : b = l
    · subst hb
      rw [mup_same] at e
      cases e
      exact ⟨nB, nO, hu⟩
    · rw [mup_ne hb] at e
      obtain ⟨h1, h2, h3⟩ := R.m.mem b mo e
      exact ⟨h1, h2, h3.stepS (s (.inr mA)) (fun o e => keep hb e) fun l' f q => ⟨q, fun o e => keep (nown q) e⟩⟩
  · obtain ⟨h1, h2⟩ := R.m.own b w e
    refine ⟨h1, ?_⟩
    rw [upd_ne (nown e)]
    exact h2
  · have q := R.m.btr b z
    rw [upd_ne (fun y => nB (by rw [← y]; exact z))]
    exact q
  · show SlU X.K (Av B (mup M l m') O) (Mut (mup M l m') O) O (upd H l u) j _ sl
    rw [av_mup nm, mut_mup nm]
    exact (R.sl j sl e).stepS (s (.inr mA)) (s mA) fun l' q => ⟨q, fun o e => keep (nown q) e⟩
  · rw [mut_mup nm]
    exact R.ent.trans (s mA)
  · rw [mut_mup nm]
    exact s mA
/-- d[k], d in memory (or data) -/
def gMGet (ga gb : GE) : GE := fun r M Q => ga r M fun d M1 => gb r M1 fun e M2 => match d, keyD e with
  | .ref l, some k => (match M2 l with
    | some (.om (.dic kds)) => (match valD kds k with
      | some v => Q v M2
      | none => False)
    | _ => False)
  | .dic kds, some k => (match valD kds k with
    | some v => Q v M2
    | none => False)
  | _, _ => False
theorem de_mget (hu : X.A.units + 1 < cLine) (ha : DE true p X a ga) (hb : DE true p X b gb) (hs : NoSl b := by intro _ _; rfl) : DE true p X (.Subscript a b pos) (gMGet ga gb) := by
  refine ⟨peI (pe_dget hu ha.run hb.run hs) fun σ H Q ⟨B, E, r, M, O, R, q⟩ => ?_, fun r M Q Q' h q => ha.mono _ _ _ _ (fun d M1 q1 => hb.mono _ _ _ _ (fun e M2 q2 => ?_) q1) q⟩
  · refine ha.on R q fun d M1 v H1 O1 k1 R1 l1 i1 => ?_
    refine hb.on R1 k1 fun e M2 u H2 O2 k2 R2 l2 i2 => ?_
    have i1' : Is X.K (Av B M2 O2) H2 v d := Is.step l2.avs i1
    have i2' : Is X.K (Av B M2 O2) H2 u e := i2
    split at k2
    · rename_i l k ek
      cases i1'
      have ku := keyD_kV ek i2'
      subst ku
      split at k2
      · rename_i kds em
        obtain ⟨_, _, kvs, e1, e2⟩ := R2.m.mem _ _ em
        split at k2
        · rename_i v ev
          obtain ⟨x, f1, f2⟩ := (e2.val (k := k)).1 v ev
          exact ⟨_, x, rfl, .inl ⟨kvs, k, .inl e1, rfl, f1.symm⟩, k2 x H2 O2 R2 (l1.trans l2) f2⟩
        · exact k2.elim
      · exact k2.elim
    · rename_i kds k ek
      have ku := keyD_kV ek i2'
      subst ku
      split at k2
      · rename_i v ev
        cases i1' with
        | @dic l kvs _ e1 e2 =>
          obtain ⟨x, f1, f2⟩ := (e2.val (k := k)).1 v ev
          exact ⟨_, x, rfl, .inl ⟨kvs, k, .inr e1.2, rfl, f1.symm⟩, k2 x H2 O2 R2 (l1.trans l2) f2⟩
      · exact k2.elim
    · exact k2.elim
  · split at q2
    · split at q2
      · split at q2
        · exact h _ _ q2
        · exact q2
      · exact q2
    · split at q2
      · exact h _ _ q2
      · exact q2
    · exact q2
/-- d[k] = v, d in memory -/
def gMPut (ga gb gc : GE) : GS := fun D r M => gc r M fun v M1 => ga r M1 fun d M2 => gb r M2 fun e M3 => match d, keyD e with
  | .ref l, some k => (match M3 l with
    | some (.om (.dic kds)) => kds.length < sizeLine ∧ D.nx r (mup M3 l (.om (.dic (putD kds k v))))
    | _ => False)
  | _, _ => False
theorem ds_mput (hu : X.A.units + 1 < cLine) (ha : DE true p X a ga) (hb : DE true p X b gb) (hc : DE true p X c gc) (hs : swapsWith c (some (.Subscript a b pos')) pos.line X.env = pure false := by rfl) : DS X (.Assign [.Subscript a b pos'] c pos) (gMPut ga gb gc) := by
  refine ⟨psI (ps_dput hu ha.run hb.run hc.run hs) fun D σ H ⟨B, E, r, M, O, R, q⟩ => ?_, fun D D' r M l q => hc.mono _ _ _ _ (fun v M1 q1 => ha.mono _ _ _ _ (fun d M2 q2 => hb.mono _ _ _ _ (fun e M3 q3 => ?_) q2) q1) q⟩
  · refine hc.on R q fun z M1 x H1 O1 k1 R1 l1 i1 => ?_
    refine ha.on R1 k1 fun d M2 v H2 O2 k2 R2 l2 i2 => ?_
    refine hb.on R2 k2 fun e M3 u H3 O3 k3 R3 l3 i3 => ?_
    have i1' : Is X.K (Av B M3 O3) H3 x z := Is.step (l2.trans l3).avs i1
    have i2' : Is X.K (Av B M3 O3) H3 v d := Is.step l3.avs i2
    have i3' : Is X.K (Av B M3 O3) H3 u e := i3
    split at k3
    · rename_i l k ek
      cases i2'
      have ku := keyD_kV ek i3'
      subst ku
      split at k3
      · rename_i kds em
        obtain ⟨_, _, kvs, e1, e2⟩ := R3.m.mem _ _ em
        refine ⟨_, _, rfl, .inl ⟨kvs, k, e1, rfl, by rw [e2.len]; exact k3.1, rfl⟩, ?_⟩
        refine k3.2 _ _ O3 (R3.mutM (m' := .om (.dic (putD kds k z))) em ⟨putK kvs k x, upd_same, ?_⟩).1
        refine IsK.step (fun b o eb nb => ⟨?_, nb⟩) (e2.put i1')
        rw [upd_ne fun z => nb (by rw [z]; exact .inr (.inl (by rw [em]; simp)))]
        exact eb
      · exact k3.elim
    · exact k3.elim
  · split at q3
    · split at q3
      · exact ⟨q3.1, l.nx _ _ q3.2⟩
      · exact q3
    · exact q3
abbrev GPs := Fr → Mem → (List (Key × D) → Mem → Prop) → Prop
structure DPs (p : Bool) (X : Cx) (pos : Pos) (keys : List (Option Expr)) (values : List Expr) (g : GPs) : Prop where
  ex : ∃ trs, PPs X pos keys values trs ∧ ∀ B E σ H r M O k Q, Rep X B E σ H r M O → g r M k →
    (∀ kds M1 H1 O1 kvs, k kds M1 → Rep X B E σ H1 r M1 O1 → Rl p M O H M1 O1 H1 → IsK X.K (Av B M1 O1) H1 kvs kds → Q (kvs.map fun kv => (kV kv.1, kv.2)) H1) → tPairs trs σ H Q
  mono : ∀ r M Q Q', (∀ d M', Q d M' → Q' d M') → g r M Q → g r M Q'
  len : ∀ r M Q, g r M Q → g r M fun ds M1 => ds.length = keys.length ∧ Q ds M1
def gPnil : GPs := fun r M Q => Q [] M
def gPcons (x : Str) (g : GE) (gs : GPs) : GPs := fun r M Q => g r M fun d M1 => gs r M1 fun kds M2 => Q ((.inr x, d) :: kds) M2
theorem dps_nil : DPs p X pos [] [] gPnil := ⟨⟨[], pps_nil, fun B E σ H r M O k Q R q h => h [] M H O [] q R Rl.refl .nil⟩, fun r M Q Q' h q => h _ _ q, fun r M Q q => ⟨rfl, q⟩⟩
theorem dps_cons {x : Str} {j : Nat} {kp : Pos} {ks : List (Option Expr)} {gp : GPs} (ha : DE true p X a ga) (hr : DPs p X pos ks es gp) : DPs p X pos (some (.Constant (.str x) j kp) :: ks) (a :: es) (gPcons x ga gp) := by
  obtain ⟨trs, h1, h2⟩ := hr.ex
  refine ⟨⟨_, pps_cons (pe_str (pos := kp)) ha.run h1, fun B E σ H r M O k Q R q h => ?_⟩, fun r M Q Q' h q => ha.mono _ _ _ _ (fun d M1 q1 => hr.mono _ _ _ _ (fun kds M2 q2 => h _ _ q2) q1) q,
    fun r M Q q => ha.mono _ _ _ _ (fun d M1 q1 => hr.mono _ _ _ _ (fun kds M2 q2 => ⟨congrArg (· + 1) q2.1, q2.2⟩) (hr.len _ _ _ q1)) q⟩
  refine ha.on R q fun d M1 v H1 O1 k1 R1 l1 i1 => ?_
  refine h2 B E σ H1 r M1 O1 _ _ R1 k1 fun kds M2 H2 O2 kvs k2 R2 l2 i2 => ?_
  exact h ((.inr x, d) :: kds) M2 H2 O2 ((.inr x, v) :: kvs) k2 R2 (l1.trans l2) (.cons (Is.step l2.avs i1) i2)
def gDisp (gp : GPs) : GF := fun r M Q => gp r M fun kds M1 => Q (.dic (mergeD [] kds)) M1
theorem df_disp {keys : List (Option Expr)} {gp : GPs} (h : DPs p X pos keys es gp) (hall : keys.all (·.isSome) = true := by rfl) (hl : keys.length = es.length := by rfl) (h0 : keys ≠ [] := by simp) (h15 : keys.length ≤ 15 := by decide) : DF p X (.Dict keys es pos) (gDisp gp) := by
  obtain ⟨trs, h1, h2⟩ := h.ex
  refine ⟨peI (pe_disp h1 hall hl h0 h15) fun σ H Q ⟨B, E, r, M, O, R, q⟩ => ?_, fun r M Q Q' hh q => h.mono r M _ _ (fun kds M1 q1 => hh _ _ q1) q⟩
  intro a n
  have N := New.of R n (o := .dK [])
  refine h2 (Bp B a) E σ (upd H a (.dK [])) r M O _ _ N.rep (h.len _ _ _ q) fun kds M1 H1 O1 kvs k1 R1 l1 i1 => ?_
  have eb : H1 a = some (.dK []) := (l1.2 a _ upd_same fun z => N.nav (.inr z)).1
  have N1 : New X B E σ H1 r M1 O1 a := N.next (l := l1) R1 (by rw [upd_same]; simp)
  refine ⟨eb, kvs, rfl, by rw [i1.len, k1.1]; exact h15, ?_⟩
  have s1 : Step (Up (Av B M1 O1) a) H1 (Up (Av B M1 O1) a) (upd H1 a (.dK (mergeK [] kvs))) := fun b o e nb => ⟨by rw [upd_ne (fun z => nb (.inr z))]; exact e, nb⟩
  have s2 : Step (Up (Mut M1 O1) a) H1 (Up (Mut M1 O1) a) (upd H1 a (.dK (mergeK [] kvs))) := fun b o e nb => ⟨by rw [upd_ne (fun z => nb (.inr z))]; exact e, nb⟩
  have nOM : ∀ b, Mut M1 O1 b → b ≠ a := fun b z y => N1.nav (.inr (by rw [← y]; exact z))
  have keep : ∀ {b : Addr} {o : HO}, b ≠ a → H1 b = some o → upd H1 a (.dK (mergeK [] kvs)) b = some o := fun {b o} h e => by rw [upd_ne h]; exact e
  have N2 : New X B E σ (upd H1 a (.dK (mergeK [] kvs))) r M1 O1 a := by
    refine ⟨⟨fun b mo e => ?_, fun b w e => ?_, fun b z => ?_⟩, N1.len, fun i sl e => (N1.sl i sl e).stepS s1 s2 fun l q => ⟨q, fun o e => keep (nOM l (.inr (by rw [q]; simp))) e⟩, N1.ent.trans s2, N1.sub, N1.exc, N1.lk, N1.xe, N1.nav⟩
    · obtain ⟨f1, f2, f3⟩ := N1.m.mem b mo e
      refine ⟨f1, f2, ?_⟩
      rw [av_up] at f3 ⊢
      exact f3.stepS s1 (fun o e => keep (nOM b (.inl (by rw [‹M1 b = some mo›]; simp))) e) fun l f q => ⟨q, fun o e => keep (nOM l (.inr (by rw [q]; simp))) e⟩
    · obtain ⟨f1, f2⟩ := N1.m.own b w e
      refine ⟨f1, ?_⟩
      rw [upd_ne (nOM b (.inr (by rw [e]; simp)))]
      exact f2
    · have f := N1.m.btr b z
      by_cases hb : b = a
      · rw [hb, upd_same]; simp
      · rw [upd_ne hb]; exact f
  refine k1.2 a _ O1 N2 ?_ ⟨mergeK [] kvs, upd_same, ?_⟩
  · refine ⟨fun hp => ?_, ?_⟩
    · obtain ⟨e1, e2, e3⟩ := l1.1 hp
      refine ⟨e1, e2, fun b o e => ?_⟩
      have nb : b ≠ a := ne_of_none e n
      rw [upd_ne nb]
      exact e3 b o (by rw [upd_ne nb]; exact e)
    · intro b o e nb
      have ne : b ≠ a := ne_of_none e n
      have f := l1.2 b o (by rw [upd_ne ne]; exact e) nb
      exact ⟨by rw [upd_ne ne]; exact f.1, f.2⟩
  · have i2 := i1.merge (kvs := []) (kds := []) .nil
    rw [av_up] at i2
    exact i2.step s1
theorem av_mupN {m : MO} : Av B (mup M l m) O = Up (Av B M O) l := by
  funext b
  apply propext
  unfold Av Mut Up
  by_cases h : b = l
  · subst h; rw [mup_same]; simp
  · rw [mup_ne h]; simp [h, Av, Mut]
theorem mut_mupN {m : MO} : Mut (mup M l m) O = Up (Mut M O) l := by
  funext b
  apply propext
  unfold Mut Up
  by_cases h : b = l
  · subst h; rw [mup_same]; simp
  · rw [mup_ne h]; simp [h, Mut]
theorem New.toMem (N : New X B E σ H r M O l) {m : MO} (hm : MOk X.K (Up (Av B M O) l) H O l m) : Rep X B E σ H r (mup M l m) O := by
  have nO : O l = none := by
    cases e : O l with
    | none => rfl
    | some w => exact (N.nav (.inr (.inr (by rw [e]; simp)))).elim
  refine ⟨⟨fun b mo e => ?_, fun b w e => ?_, fun b z => N.m.btr b (.inl z)⟩, N.len, fun j sl e => ?_, ?_, N.sub, N.exc, N.lk, N.xe⟩
  · rw [av_mupN]
    by_cases hb : b = l
    · subst hb
      rw [mup_same] at e
      cases e
      exact ⟨fun z => N.nav (.inl z), nO, hm⟩
    · rw [mup_ne hb] at e
      obtain ⟨h1, h2, h3⟩ := N.m.mem b mo e
      rw [av_up] at h3
      exact ⟨fun z => h1 (.inl z), h2, h3⟩
  · obtain ⟨h1, h2⟩ := N.m.own b w e
    exact ⟨fun z => h1 (.inl z), h2⟩
  · show SlU X.K (Av B (mup M l m) O) (Mut (mup M l m) O) O H j _ sl
    rw [av_mupN, mut_mupN]
    exact N.sl j sl e
  · rw [mut_mupN]
    exact N.ent
def gRetM (gf : GF) : GS := fun D r M => gf r M fun m M1 => ∀ a, M1 a = none → D.rt (.ref a) (mup M1 a (.om m))
theorem New.mnone (N : New X B E σ H r M O l) : M l = none := by
  cases e : M l with
  | none => rfl
  | some w => exact (N.nav (.inr (.inl (by rw [e]; simp)))).elim
theorem ds_retM (he : DF p X e gf) : DS X (.Return (some e) pos) (gRetM gf) := by
  refine ⟨psI (ps_ret he.run) fun D σ H ⟨B, E, r, M, O, R, q⟩ => ?_, fun D D' r M l q => he.mono _ _ _ _ (fun m M1 q1 a h => l.rt _ _ (q1 a h)) q⟩
  refine he.on R q fun m M1 a H1 O1 k1 N1 l1 i1 => ?_
  have R1 := N1.toMem (m := .om m) i1
  exact k1 a N1.mnone (.ref a) H1 O1 R1.m R1.ent (.ref a)
def gSetM (i : Nat) (gf : GF) : GS := fun D r M => gf r M fun m M1 => ∀ a, M1 a = none → D.nx (r.set i (.v (.ref a))) (mup M1 a (.om m))
theorem ds_setM (i : Nat) {x : Str} {px : Pos} (hN : X.N.Nodup) (he : DF p X e gf) (hi : X.N[i]? = some x := by rfl) (hx : Loc X.env.scope x := by first | exact Or.inl rfl | exact Or.inr rfl) (hs : swapsWith e (some (.Name x px)) pos.line X.env = pure false := by rfl)
    (hf : X.fn x = true ∨ X.env.scope.names.lookup x = some .local := by first | exact .inl rfl | exact .inr rfl | assumption) : DS X (.Assign [.Name x px] e pos) (gSetM i gf) := by
  refine ⟨psI (ps_set hN hi hx he.run hs hf) fun D σ H ⟨B, E, r, M, O, R, q⟩ => ?_, fun D D' r M l q => he.mono _ _ _ _ (fun d M1 q1 a h => l.nx _ _ (q1 a h)) q⟩
  exact he.on R q (Q := fun x H1 => D.nx (σ.set i (some x)) H1) fun m M1 a H1 O1 k1 N1 l1 i1 => k1 a N1.mnone _ H1 O1 ((N1.toMem (m := .om m) i1).setv i (.ref a))
end
theorem st_open {K : PySem.W.Frag} {B : Addr → Prop} {H : Hp} {M : Mem} {O : Own} {a : Addr} (m : MemOk K B H M O) (h : M a = some .st) : ∃ kds, StOk kds ∧ MemOk K B H (mup M a (.om (.dic kds))) O := by
  have nm : M a ≠ none := by rw [h]; simp
  obtain ⟨h1, h2, kds, h3, h4⟩ := m.mem a _ h
  refine ⟨kds, h3, fun b mo e => ?_, m.own, m.btr⟩
  rw [av_mup nm]
  by_cases hb : b = a
  · subst hb
    rw [mup_same] at e
    cases e
    exact ⟨h1, h2, h4⟩
  · rw [mup_ne hb] at e
    exact m.mem b mo e
theorem st_close {K : PySem.W.Frag} {B : Addr → Prop} {H : Hp} {M : Mem} {O : Own} {a : Addr} {kds : List (Key × D)} (m : MemOk K B H (mup M a (.om (.dic kds))) O) (h : StOk kds) : MemOk K B H (mup M a .st) O := by
  have e2 : mup M a .st = mup (mup M a (.om (.dic kds))) a .st := mup_mup.symm
  rw [e2]
  have nm : (mup M a (.om (.dic kds))) a ≠ none := by rw [mup_same]; simp
  obtain ⟨h1, h2, h4⟩ := m.mem a _ mup_same
  refine ⟨fun b mo e => ?_, m.own, m.btr⟩
  rw [av_mup nm]
  by_cases hb : b = a
  · subst hb
    rw [mup_same] at e
    cases e
    exact ⟨h1, h2, kds, h, h4⟩
  · rw [mup_ne hb] at e
    exact m.mem b mo e
end DL
set_option Elab.async false
set_option linter.all false
set_option maxRecDepth 100000
namespace PySem
open Sem (wp)
end PySem
namespace DL
open PySem PySem.Spec PyProof.Rows L2
def iSeq (K : PySem.W.Frag) (tl : TE) : TI := fun σ H R => tl σ H fun v H1 => ∃ (a : Addr) (xs : List V), v = .ref a ∧ ((SqL K H1 a xs ∧ R (Itl K a) H1) ∨ (SqT K H1 a xs ∧ R (Itt K a) H1))
section
variable {X : Cx} {tg e : Expr} {te : TE}
theorem pi_seq (he : PE X e te) : PI X tg e (iSeq X.K te) := by
  refine ⟨fun pins s σ H R I h => thn (he.run pins s σ H _ I h) fun u s1 ⟨v, H1, I1, r1, a, xs, ev, q⟩ => ?_⟩
  subst ev
  cases r1
  have fr : ∀ b ∈ [s1.heap.objs.size], FpOk X pins H1 b := fun b hb => by
    rw [List.mem_singleton.mp hb]
    exact I1.fpOk (Nat.le_refl _) (I1.hok.fresh (Nat.le_refl _))
  rcases q with ⟨hq, q⟩ | ⟨hq, q⟩
  · obtain ⟨its, rv, p, hz⟩ := I1.list hq
    exact wpAny_pyIter_list p.isList ⟨s1.heap.objs.size, [s1.heap.objs.size], _, _, H1, rfl, I1.kept (t' := s1.toks) fun b o z => Heap.get?_push_of_some _ z, turn_list a _, ⟨_, Heap.get?_push_size _ rfl, rfl, rfl⟩, fr, q⟩
  · obtain ⟨its, rv, p, hz⟩ := I1.tuple hq
    exact wpAny_pyIter_tuple (show s1.heap.IsTuple a its.toArray from p) ⟨s1.heap.objs.size, [s1.heap.objs.size], _, _, H1, rfl, I1.kept (t' := s1.toks) fun b o z => Heap.get?_push_of_some _ z, turn_tuple a _, ⟨_, Heap.get?_push_size _ rfl, rfl, rfl⟩, fr, q⟩
end
section
variable {X : Cx} {w p : Bool} {e a b iter tg : Expr} {es : List Expr} {g ga gb : GE} {gs : GA} {B : Addr → Prop} {E : En} {σ : L2.St} {H H' H1 : Hp} {r : Fr} {M M' M1 : Mem} {O O' O1 : Own} {pos pos' : Pos}
def enumD : Nat → List D → List D
  | _, [] => []
  | i, d :: ds => .tup [.int (i : Nat), d] :: enumD (i + 1) ds
def zipD : List D → List D → List D
  | x :: xs, y :: ys => .tup [x, y] :: zipD xs ys
  | _, _ => []
/-- what a list or tuple holds -/
def itsD (f : List D → List D) (ga : GE) : GI := fun r M Q => ga r M fun d M1 => match d with
  | .lst ds => Q (f ds) M1
  | .tup ds => Q (f ds) M1
  | _ => False
theorem itsD_mono {f : List D → List D} (ha : ∀ r M Q Q', (∀ d M', Q d M' → Q' d M') → ga r M Q → ga r M Q') : ∀ r M Q Q', (∀ d M', Q d M' → Q' d M') → itsD f ga r M Q → itsD f ga r M Q' := fun r M Q Q' h q => ha _ _ _ _ (fun d M1 q1 => by
  split at q1
  · exact h _ _ q1
  · exact h _ _ q1
  · exact q1) q
theorem di_seq (ha : DE true p X iter ga) : DI p X tg iter (itsD (fun ds => ds) ga) where
  ex := ⟨_, pi_seq ha.run, fun B E σ H r M O k R' R q hR => by
    refine ha.on R q fun d M1 v H1 O1 k1 R1 l1 i1 => ?_
    have i1 : Is X.K (Av B M1 O1) H1 v d := i1
    split at k1
    · cases i1 with
      | @lst a vs _ h l => exact ⟨a, vs, rfl, .inl ⟨SqL.of h.2, hR _ M1 H1 O1 _ k1 R1 l1 (walk_lst (lst_mut h) l)⟩⟩
    · cases i1 with
      | @tup a vs _ h l => exact ⟨a, vs, rfl, .inr ⟨h.sq, hR _ M1 H1 O1 _ k1 R1 l1 (walk_tup (tup_mut h) l)⟩⟩
    · exact k1.elim⟩
  mono := itsD_mono ha.mono
def giZip (gs : GA) : GI := fun r M Q => gs r M fun ds M1 => match ds with
  | [.lst xs, .lst ys] => Q (zipD xs ys) M1
  | [.tup xs, .tup ys] => Q (zipD xs ys) M1
  | _ => False
end
end DL
set_option Elab.async false
set_option linter.all false
set_option maxRecDepth 100000
namespace PySem
open AutoSeq1 (wpAny_loadPart')
end PySem
namespace DL
open PySem PySem.Spec PySem.W PyProof.Rows L2
section
variable {X : Cx} {w p w1 w2 : Bool} {e a b c : Expr} {es : List Expr} {g ga gb gc : GE} {gf : GF} {gs : GA} {B : Addr → Prop} {E : En} {σ : L2.St} {H H' : Hp} {r : Fr} {M M' : Mem} {O O' : Own} {pos pos' : Pos}
def goIsB (neg : Bool) : GO := fun d e M Q => match d, e with
  | .bl x, .bl y => Q (.bl (xor neg (decide (x = y)))) M
  | _, _ => False
def gIPut (i : Nat) (gi ge : GE) : GS := fun D r M => ge r M fun d M1 => match r.sl[i]? with
  | some (.o (.lst ds)) => gi r M1 fun k M2 => match k with
    | .int k => (match ixN ds.length k with
      | some j => D.nx (r.set i (.o (.lst (ds.set j d)))) M2
      | none => False)
    | _ => False
  | _ => False
theorem pyL_get : ∀ {ds : List D} {i : Nat} {z : PyData}, (D.pyL ds)[i]? = some z → ∃ d, ds[i]? = some d ∧ z = d.py
  | [], _, _, h => by simp [D.pyL] at h
  | d :: r, 0, z, h => ⟨d, rfl, by simpa [D.pyL] using h.symm⟩
  | d :: r, i + 1, z, h => by
    obtain ⟨x, h1, h2⟩ := pyL_get (ds := r) (i := i) (z := z) (by simpa [D.pyL] using h)
    exact ⟨x, by simpa using h1, h2⟩
theorem pyL_get' : ∀ {ds : List D} {i : Nat} {d : D}, ds[i]? = some d → (D.pyL ds)[i]? = some d.py
  | [], _, _, h => by simp at h
  | d :: r, 0, z, h => by simp at h; subst h; rfl
  | d :: r, i + 1, z, h => by
    have := pyL_get' (ds := r) (i := i) (d := z) (by simpa using h)
    simpa [D.pyL] using this
/-- the first one equal to e -/
def ixD : List D → D → Nat → Option Nat
  | [], _, _ => none
  | d :: r, e, k => if d.eqv e = true then some k else ixD r e (k + 1)
theorem ixD_spec {e : D} : ∀ {ds : List D} {k j : Nat}, ixD ds e k = some j → k ≤ j ∧ (∃ d, ds[j - k]? = some d ∧ d.eqv e = true) ∧ ∀ m d, m < j - k → ds[m]? = some d → d.eqv e = false
  | [], _, _, h => by simp [ixD] at h
  | d :: r, k, j, h => by
    unfold ixD at h
    by_cases c : d.eqv e = true
    · rw [if_pos c] at h
      cases h
      exact ⟨Nat.le_refl _, ⟨d, by simp, c⟩, fun m _ hm => by omega⟩
    · rw [if_neg c] at h
      obtain ⟨h1, ⟨x, h2, h3⟩, h4⟩ := ixD_spec (ds := r) h
      refine ⟨by omega, ⟨x, ?_, h3⟩, fun m y hm hy => ?_⟩
      · rw [show j - k = (j - (k + 1)) + 1 by omega]
        simpa using h2
      · cases m with
        | zero =>
          simp at hy
          subst hy
          simpa using c
        | succ m => exact h4 m y (by omega) (by simpa using hy)
/-- .. in a tuple of ints -/
def ixT (ds : List D) (e : D) (k : Nat → Prop) : Prop := match intsOf ds, e with
  | some ns, .int i => i ∈ ns ∧ k (ns.idxOf i)
  | _, _ => False
def gIdx (ga gb : GE) : GE := fun r M Q => ga r M fun d M1 => match d with
  | .lst ds => gb r M1 fun e M2 => (D.ok (.lst ds) = true ∧ e.ok = true) ∧ (match ixD ds e 0 with
    | some j => Q (.int (j : Nat)) M2
    | none => False)
  | .tup ds => gb r M1 fun e M2 => ixT ds e fun j => Q (.int (j : Nat)) M2
  | _ => False
theorem foldmin (ns : List Int) : ∀ n : Int, ns.foldl min n ∈ n :: ns ∧ ∀ y ∈ n :: ns, ns.foldl min n ≤ y := by
  induction ns with
  | nil => exact fun n => ⟨List.mem_cons_self .., fun y hy => by rw [List.mem_singleton.mp hy]; exact Int.le_refl _⟩
  | cons m r ih =>
    intro n
    obtain ⟨h1, h2⟩ := ih (min n m)
    rw [List.foldl_cons]
    have h3 := h2 _ (List.mem_cons_self ..)
    refine ⟨?_, fun y hy => ?_⟩
    · rcases List.mem_cons.mp h1 with e | e
      · rw [e]
        rcases Int.le_total n m with z | z
        · rw [Int.min_eq_left z]; exact List.mem_cons_self ..
        · rw [Int.min_eq_right z]; exact List.mem_cons_of_mem _ (List.mem_cons_self ..)
      · exact List.mem_cons_of_mem _ (List.mem_cons_of_mem _ e)
    · rcases List.mem_cons.mp hy with rfl | hy
      · exact Int.le_trans h3 (Int.min_le_left _ _)
      · rcases List.mem_cons.mp hy with rfl | hy
        · exact Int.le_trans h3 (Int.min_le_right _ _)
        · exact h2 y (List.mem_cons_of_mem _ hy)
theorem foldmax (ns : List Int) : ∀ n : Int, ns.foldl max n ∈ n :: ns ∧ ∀ y ∈ n :: ns, y ≤ ns.foldl max n := by
  induction ns with
  | nil => exact fun n => ⟨List.mem_cons_self .., fun y hy => by rw [List.mem_singleton.mp hy]; exact Int.le_refl _⟩
  | cons m r ih =>
    intro n
    obtain ⟨h1, h2⟩ := ih (max n m)
    rw [List.foldl_cons]
    have h3 := h2 _ (List.mem_cons_self ..)
    refine ⟨?_, fun y hy => ?_⟩
    · rcases List.mem_cons.mp h1 with e | e
      · rw [e]
        rcases Int.le_total n m with z | z
        · rw [Int.max_eq_right z]; exact List.mem_cons_of_mem _ (List.mem_cons_self ..)
        · rw [Int.max_eq_left z]; exact List.mem_cons_self ..
      · exact List.mem_cons_of_mem _ (List.mem_cons_of_mem _ e)
    · rcases List.mem_cons.mp hy with rfl | hy
      · exact Int.le_trans (Int.le_max_left _ _) h3
      · rcases List.mem_cons.mp hy with rfl | hy
        · exact Int.le_trans (Int.le_max_right _ _) h3
        · exact h2 y (List.mem_cons_of_mem _ hy)
def gcMinA : GC := fun ds M Q => match ds with
  | [.lst xs] => ∃ ns, intsOf xs = some ns ∧ 0 < ns.length ∧ ∀ m, m ∈ ns → (∀ y ∈ ns, m ≤ y) → Q (.int m) M
  | [.tup xs] => ∃ ns, intsOf xs = some ns ∧ 0 < ns.length ∧ ∀ m, m ∈ ns → (∀ y ∈ ns, m ≤ y) → Q (.int m) M
  | [.int i, .int j] => Q (.int (if j < i then j else i)) M
  | _ => False
def gcMaxA : GC := fun ds M Q => match ds with
  | [.lst xs] => ∃ ns, intsOf xs = some ns ∧ 0 < ns.length ∧ ∀ m, m ∈ ns → (∀ y ∈ ns, y ≤ m) → Q (.int m) M
  | [.tup xs] => ∃ ns, intsOf xs = some ns ∧ 0 < ns.length ∧ ∀ m, m ∈ ns → (∀ y ∈ ns, y ≤ m) → Q (.int m) M
  | [.int i, .int j] => Q (.int (if j > i then j else i)) M
  | _ => False
def repD (k : Int) (xs : List D) : List D := (List.replicate k.toNat xs).flatten
def goMulT : GO := fun d e M Q => match d, e with
  | .tup xs, .int k => (xs ≠ [] ∧ -1000000 ≤ k ∧ k ≤ 1000 ∧ xs.length ≤ 1000) ∧ Q (.tup (repD k xs)) M
  | _, _ => False
theorem IsL.rep {K : PySem.W.Frag} {A : Addr → Prop} {vs : List V} {ds : List D} (h : IsL K A H vs ds) : ∀ k : Nat, IsL K A H (List.replicate k vs).flatten (List.replicate k ds).flatten
  | 0 => .nil
  | k + 1 => by
    rw [List.replicate_succ, List.replicate_succ, List.flatten_cons, List.flatten_cons]
    exact h.append (IsL.rep h k)
def D.deep : D → Bool
  | .tup _ | .lst _ => true
  | _ => false
def gcRepr : GC := fun ds M Q => match ds with
  | [d] => (d.deep = true ∧ d.ok = true ∧ d.py.showable = true ∧ d.py.shown.length ≤ sizeLine) ∧ Q (.str d.py.shown) M
  | _ => False
mutual
theorem py_noDict : ∀ d : D, d.py.hasDict = false
  | .non => rfl
  | .bl _ => rfl
  | .int _ => rfl
  | .str _ => rfl
  | .ty _ => rfl
  | .ref _ => rfl
  | .dic _ => rfl
  | .tup xs => by simp only [D.py, PyData.hasDict]; exact pyL_noDict xs
  | .lst xs => by simp only [D.py, PyData.hasDict]; exact pyL_noDict xs
theorem pyL_noDict : ∀ ds : List D, PyData.hasDictAll (D.pyL ds) = false
  | [] => rfl
  | d :: r => by simp only [D.pyL, PyData.hasDictAll, py_noDict d, pyL_noDict r]; rfl
end
theorem ca_repr (hu : X.A.units + 66 < cLine) (hg : X.A.guards = some []) : CaD X (.builtin "repr") gcRepr where
  ex := ⟨fun vs H Q => ∃ (a : Addr) (d : PyData), vs = [.ref a] ∧ Dp X.K H (.ref a) d ∧ d.showable = true ∧ d.hasDict = false ∧ d.depth ≤ 64 ∧ d.shown.length ≤ sizeLine ∧ Q (.str d.shown) H, fun pins s σ H vs us Q I r h => by
      obtain ⟨a, d, rfl, dp, hs, hd, h64, hz, q⟩ := h
      rw [Vals.ref1 r]
      obtain ⟨as, rd⟩ := Dp.reads I d _ (.ref a) dp rfl
      exact repr_of_reads' rd hs (fun z => by rw [hd] at z; cases z) hg (by omega) (fun _ _ e => e) (fun h' u tk hk => ⟨.str _, H, I.kept hk, ⟨u, rfl⟩, q⟩) hz, fun B E σ H r M O xs ds Q R ii q => by
    unfold gcRepr at q
    split at q
    · rename_i d
      obtain ⟨⟨q1, q2, q3, q4⟩, q5⟩ := q
      obtain ⟨v, rfl, i⟩ := isXL1 ii
      have hok := ok_and q2
      have sh : (PyData.canLay0 d.py && decide (PyData.depth d.py ≤ 64)) = true := hok.2
      have h64 := of_decide_eq_true (Bool.and_eq_true_iff.mp sh).2
      cases d with
      | tup ds => 
        obtain ⟨a, vs, rfl, _⟩ := id i
        exact ⟨a, _, rfl, Is1.dp i hok.1, q3, py_noDict _, h64, q4, fin_v R (.str _) q5⟩
      | lst ds =>
        obtain ⟨a, vs, rfl, _⟩ := id i
        exact ⟨a, _, rfl, Is1.dp i hok.1, q3, py_noDict _, h64, q4, fin_v R (.str _) q5⟩
      | _ => cases q1
    · exact q.elim⟩
  mono := fun d M Q Q' h q => by
    unfold gcRepr at q ⊢
    split at q
    · exact ⟨q.1, h _ _ q.2⟩
    · exact q.elim
end
end DL
set_option Elab.async false
set_option linter.all false
set_option maxRecDepth 100000
namespace DL
open PySem PySem.Spec PyProof.Rows L2
section
variable {X : Cx} {w p : Bool} {a : Expr} {ga : GE} {pos : Pos}
/-- xs[::-1] -/
def goRevA : GU := fun d M Q => match d with
  | .lst xs => Q (.lst xs.reverse) M
  | .tup xs => Q (.tup xs.reverse) M
  | _ => False
end
end DL
set_option Elab.async false
set_option linter.all false
set_option maxRecDepth 100000
namespace DL
open PySem PySem.Spec PySem.W PyProof.Rows L2
abbrev goSub : GO := goI (fun _ _ => True) fun i j => .int (i - j)
abbrev goMod : GO := goI (fun _ j => 0 < j) fun i j => .int (i % j)
abbrev goFdiv : GO := goI CDivW fun i j => .int (i / j)
abbrev goPow : GO := goI CPow fun i j => .int (i ^ j.toNat)
abbrev goMulI : GO := goI CMul fun i j => .int (i * j)
abbrev goLe : GO := goI (fun _ _ => True) fun i j => .bl (decide (i ≤ j))
abbrev goGt : GO := goI (fun _ _ => True) fun i j => .bl (decide (j < i))
abbrev goGe : GO := goI (fun _ _ => True) fun i j => .bl (decide (j ≤ i))
abbrev guNeg : GU := guI fun i => .int (-i)
abbrev gcAll : GC := gcBls fun bs => bs.all _root_.id
abbrev gcAny : GC := gcBls fun bs => bs.any _root_.id
abbrev gcAbs : GC := gcI1 fun i => .int (if i < 0 then -i else i)
theorem hu_ {A : Around} {k : Nat} (hr : Room k A) {n : Nat} (h : n ≤ 200 := by decide) : A.units + n < cLine := by have := hr.un; omega
section
variable {X : Cx} {p : Bool} {tg iter elt : Expr} {ifs : List Expr} {scope : Scope} {own : List (Str × Nat)} {ws : List Nat} {gi : GI} {gt : GG} {gtt : GT} {ge : GE} {pos : Pos}
theorem df_comp (hc : X.calm = true) (hN : X.N.Nodup) (hi : DI p X tg iter gi) (ok : BlkOk X.N X.env.scope scope own)
    (hg : ∀ (s : Shared) (H : Hp) (C : Addr) (cl : List (Str × Addr)) (fp : List Addr), DT' (X.blk s H scope (compEnvC scope cl C X.env) fp) tg ws gt)
    (ht : ∀ (s : Shared) (H : Hp) (C : Addr) (cl : List (Str × Addr)) (fp : List Addr), DTts p (X.blk s H scope (compEnvC scope cl C X.env) fp) ifs gtt)
    (he : ∀ (s : Shared) (H : Hp) (C : Addr) (cl : List (Str × Addr)) (fp : List Addr), DE true p (X.blk s H scope (compEnvC scope cl C X.env) fp) elt ge)
    (hws : ∀ j ∈ ws, j ∈ own.map (·.2) := by decide) (hs : ∀ x, foldedSetIterable iter X.env x = pure x := by intro _; rfl) : DF p X (.ListComp elt [⟨tg, iter, ifs, 0⟩] scope pos) (gLc gi gt gtt ge (own.map (·.2))) :=
  df_lc hc hN hi ok hg ht he (hg X.s_0 X.H_0 0 [] []).p.mono (ht X.s_0 X.H_0 0 [] []).mono (he X.s_0 X.H_0 0 [] []).mono (hg X.s_0 X.H_0 0 [] []).s hws hs
end
/-- drawn: the state at ds[0], memory as it was -/
def DrawF (pre : List D → Prop) (post : List D → D → Prop) : FS := fun ds M Q _ => (∃ a r, ds = .ref a :: r ∧ M a = some .st ∧ pre r ∧ ∀ d, post r d → Q d M)
theorem drawF_mono {pre : List D → Prop} {post : List D → D → Prop} : MonoF (DrawF pre post) := fun _ _ _ _ _ _ h _ ⟨a, r, e, m, p, q⟩ => ⟨a, r, e, m, p, fun d z => h _ _ (q d z)⟩
/-- raw: the state's dict stands open -/
def RawF (pre : List D → Prop) (post : List D → D → Prop) : FS := fun ds M Q _ => ∃ a r kds, ds = .ref a :: r ∧ M a = some (.om (.dic kds)) ∧ StOk kds ∧ pre r ∧ ∀ d kds', post r d → StOk kds' → Q d (mup M a (.om (.dic kds')))
theorem rawF_mono {pre : List D → Prop} {post : List D → D → Prop} : MonoF (RawF pre post) := fun _ _ _ _ _ _ h _ ⟨a, r, k, e, m, s, p, q⟩ => ⟨a, r, k, e, m, s, p, fun d kds z z2 => h _ _ (q d kds z z2)⟩
theorem ArgsOk.same {K : PySem.W.Frag} {A U U' : Addr → Prop} {H : Hp} (hU : U = U') {ks : List AK} {vs : List V} {ds : List D} (h : ArgsOk K A U H ks vs ds) : ArgsOk K A U' H ks vs ds := by rw [← hU]; exact h
theorem Def.draw {P : Program} {w : World} {K : PySem.W.Frag} {mg : Str → Option Value} {base : Heap} {n : Nat} {x : Str} {ps : List Str} {ks : List AK} {pre : List D → Prop} {post : List D → D → Prop}
    (h : Def P w K mg base n x ps ks (RawF pre post)) : Def P w K mg base n x ps ks (DrawF pre post) := by
  obtain ⟨f, fd, F, hm, hk, hb⟩ := h.ex
  refine ⟨⟨f, fd, F.imp fun vs H Q E q => ?_, hm, hk, hb⟩, drawF_mono⟩
  obtain ⟨B, M, O, ds, m, fl, ha, a, r, rfl, ms, hp, q⟩ := q
  obtain ⟨kds, ok, m2⟩ := st_open m ms
  have nm : M a ≠ none := by rw [ms]; simp
  refine ⟨B, mup M a (.om (.dic kds)), O, _, m2, fl, ?_, a, r, kds, rfl, mup_same, ok, hp, fun d kds' hd ok' v H' O' m' fl' st i => ?_⟩
  · rw [av_mup nm, mut_mup nm]
    exact ha
  · rw [mup_mup] at m' st i
    have m3 := st_close m' ok'
    have e1 : mup M a .st = M := mup_self ms
    rw [e1] at m3
    rw [mut_mup nm, mut_mup nm] at st
    rw [av_mup nm] at i
    exact q d hd v H' O' m3 fl' st i
/-- the state is made -/
def BegunF : FS := fun ds M Q _ => ∃ ns : List Int, ds = [.lst (ns.map .int)] ∧ ns.length ≤ 63 ∧ ∀ a, M a = none → Q (.ref a) (mup M a .st)
theorem begunF_mono : MonoF BegunF := fun _ _ _ _ _ _ h _ ⟨ns, e, hl, q⟩ => ⟨ns, e, hl, fun a n => h _ _ (q a n)⟩
def BegunR : FS := fun ds M Q _ => ∃ ns : List Int, ds = [.lst (ns.map .int)] ∧ ns.length ≤ 63 ∧ ∀ a kds, M a = none → StOk kds → Q (.ref a) (mup M a (.om (.dic kds)))
theorem begunR_mono : MonoF BegunR := fun _ _ _ _ _ _ h _ ⟨ns, e, hl, q⟩ => ⟨ns, e, hl, fun a kds n z => h _ _ (q a kds n z)⟩
theorem Def.begun {P : Program} {w : World} {K : PySem.W.Frag} {mg : Str → Option Value} {base : Heap} {n : Nat} {x : Str} {ps : List Str} {ks : List AK} (h : Def P w K mg base n x ps ks BegunR) : Def P w K mg base n x ps ks BegunF := by
  obtain ⟨f, fd, F, hm, hk, hb⟩ := h.ex
  refine ⟨⟨f, fd, F.imp fun vs H Q E q => ?_, hm, hk, hb⟩, begunF_mono⟩
  obtain ⟨B, M, O, ds, m, fl, ha, ns, rfl, hl, q⟩ := q
  refine ⟨B, M, O, _, m, fl, ha, ns, rfl, hl, fun a kds na ok v H' O' m' fl' st i => ?_⟩
  have m3 := st_close m' ok
  refine q a na v H' O' m3 fl' ?_ ?_
  · rw [mut_mupN] at st ⊢
    exact st
  · rw [av_mupN] at i ⊢
    exact i
end DL
set_option Elab.async false
set_option linter.all false
namespace DL
open PySem PySem.Spec PySem.W PyProof.Rows L2
section
variable {gt : GG} {gtt : GT} {ge : GE} {r : DL.Fr} {M : Mem} {Q : List D → Mem → Prop}
theorem lc_map (f : D → D) : ∀ {ds acc : List D}, (∀ d ∈ ds, ∀ Q' : D → Mem → Prop, Q' (f d) M → gt d r M fun r1 M1 => ge r1 M1 Q') → acc.length + ds.length ≤ sizeLine → Q (acc ++ ds.map f) M → lcD gt gYes ge r ds acc M Q
  | [], acc, _, _, q => by
    show Q acc M
    simpa using q
  | d :: ds, acc, h, hz, q => by
    have hz' : acc.length + (ds.length + 1) ≤ sizeLine := hz
    refine h d (List.mem_cons_self ..) _ ⟨by omega, lc_map f (fun x hx => h x (List.mem_cons_of_mem _ hx)) ?_ ?_⟩
    · rw [List.length_append, List.length_cons, List.length_nil]; omega
    · rw [List.append_assoc]; exact q
end
theorem atI_in {α : Type} {xs : List α} {i : Int} (h0 : 0 ≤ i) (h1 : i < xs.length) : ∃ z, atI xs i = some z ∧ z ∈ xs ∧ xs[i.toNat]? = some z := by
  have hl : i.toNat < xs.length := by omega
  refine ⟨xs[i.toNat], ?_, List.getElem_mem hl, List.getElem?_eq_getElem hl⟩
  unfold atI ixN
  rw [if_pos h0, if_pos h1]
  exact List.getElem?_eq_getElem hl
theorem atI_nat {α : Type} {xs : List α} {i : Int} {z : α} (h0 : 0 ≤ i) (h : xs[i.toNat]? = some z) : atI xs i = some z := by
  obtain ⟨hl, _⟩ := List.getElem?_eq_some_iff.mp h
  unfold atI ixN
  rw [if_pos h0, if_pos (show i < xs.length by omega)]
  exact h
theorem eqv_int (a b : Int) : D.eqv (.int a) (.int b) = decide (a = b) := by
  simp only [D.eqv, D.py, PyData.eqv]
  by_cases h : a = b
  · simp [h]
  · simp [h]
theorem ok_of {d : D} (h1 : d.pl = true) (h2 : PyData.canLay0 d.py = true) (h3 : PyData.depth d.py ≤ 64) : d.ok = true := by
  unfold D.ok
  rw [h1, Bool.true_and]
  show (PyData.canLay0 d.py && decide (PyData.depth d.py ≤ 64)) = true
  rw [h2, decide_eq_true h3]
  rfl
/-- depth and form of what holds such things -/
structure Ok1 (k : Nat) (d : D) : Prop where
  pl : d.pl = true
  lay : PyData.canLay0 d.py = true
  dep : PyData.depth d.py ≤ k
theorem Ok1.ok {k : Nat} {d : D} (h : Ok1 k d) (hk : k ≤ 64 := by decide) : d.ok = true := ok_of h.pl h.lay (Nat.le_trans h.dep hk)
theorem Ok1.mono {j k : Nat} {d : D} (h : Ok1 j d) (hk : j ≤ k) : Ok1 k d := ⟨h.pl, h.lay, Nat.le_trans h.dep hk⟩
theorem ok1_int (n : Int) : Ok1 0 (.int n) := ⟨rfl, rfl, Nat.le_refl _⟩
theorem ok1_all {k : Nat} : ∀ {ds : List D}, (∀ d ∈ ds, Ok1 k d) → D.plL ds = true ∧ PyData.canLayAll0 (D.pyL ds) = true ∧ PyData.depthAll (D.pyL ds) ≤ k
  | [], _ => ⟨rfl, rfl, Nat.zero_le _⟩
  | d :: r, h => by
    obtain ⟨h1, h2, h3⟩ := ok1_all (ds := r) fun x hx => h x (List.mem_cons_of_mem _ hx)
    obtain ⟨g1, g2, g3⟩ := h d (List.mem_cons_self ..)
    refine ⟨?_, ?_, ?_⟩
    · simp only [D.plL, g1, h1]; rfl
    · simp only [D.pyL, PyData.canLayAll0, g2, h2]; rfl
    · simp only [D.pyL, PyData.depthAll]
      exact Nat.max_le.mpr ⟨g3, h3⟩
theorem ok1_tup {k : Nat} {ds : List D} (h : ∀ d ∈ ds, Ok1 k d) : Ok1 (k + 1) (.tup ds) := by
  obtain ⟨h1, h2, h3⟩ := ok1_all h
  exact ⟨by simp only [D.pl]; exact h1, by simp only [D.py, PyData.canLay0]; exact h2, by simp only [D.py, PyData.depth]; omega⟩
theorem ok1_lst {k : Nat} {ds : List D} (h : ∀ d ∈ ds, Ok1 k d) : Ok1 (k + 1) (.lst ds) := by
  obtain ⟨h1, h2, h3⟩ := ok1_all h
  exact ⟨by simp only [D.pl]; exact h1, by simp only [D.py, PyData.canLay0]; exact h2, by simp only [D.py, PyData.depth]; omega⟩
theorem ok1_ints (ns : List Int) : ∀ d ∈ ns.map D.int, Ok1 0 d := fun d hd => by
  obtain ⟨n, _, rfl⟩ := List.mem_map.mp hd
  exact ok1_int n
theorem ints_of {P : Int → Prop} {xs : List D} (h : ∀ d ∈ xs, ∃ n, d = .int n ∧ P n) : ∃ ns : List Int, xs = ns.map .int ∧ ns.length = xs.length ∧ ∀ n ∈ ns, P n := by
  induction xs with
  | nil => exact ⟨[], rfl, rfl, by simp⟩
  | cons x r ih =>
    obtain ⟨n, rfl, hn⟩ := h x (List.mem_cons_self ..)
    obtain ⟨ns, rfl, hl, hp⟩ := ih fun d hd => h d (List.mem_cons_of_mem _ hd)
    exact ⟨n :: ns, rfl, congrArg (· + 1) hl, fun m hm => by
      rcases List.mem_cons.mp hm with rfl | hm
      · exact hn
      · exact hp m hm⟩
theorem size_of {n : Nat} (h : n ≤ 1000000) : n ≤ sizeLine := by rw [sizeLine_eq]; omega
theorem size_lt {n : Nat} (h : n ≤ 1000000) : n < sizeLine := by rw [sizeLine_eq]; omega
def mn : List Int → Int
  | [] => 0
  | x :: r => r.foldl min x
theorem mn_mem {ns : List Int} (h : ns ≠ []) : mn ns ∈ ns := by
  cases ns with
  | nil => exact absurd rfl h
  | cons x r => exact (foldmin r x).1
theorem mn_le {ns : List Int} {y : Int} (h : y ∈ ns) : mn ns ≤ y := by
  cases ns with
  | nil => cases h
  | cons x r => exact (foldmin r x).2 y h
theorem mn_eq {ns : List Int} {m : Int} (h1 : m ∈ ns) (h2 : ∀ y ∈ ns, m ≤ y) : m = mn ns := by
  have a := mn_le h1
  have b := h2 _ (mn_mem (List.ne_nil_of_mem h1))
  omega
end DL
namespace DL
open PySem PySem.Spec PySem.W PyProof.Rows L2
/-- not an own one -/
def Sl.fr : Sl → Prop
  | .o _ => False
  | _ => True
end DL
set_option Elab.async false
set_option linter.all false
namespace DL
open PySem PySem.Spec PySem.W PyProof.Rows L2
/-- depth, weight: it may be compared, shown -/
structure Sh (k w : Nat) (d : D) : Prop where
  pl : d.pl = true
  lay : PyData.canLay0 d.py = true
  dep : PyData.depth d.py ≤ k
  wt : PyData.weight d.py ≤ w
  sh : PyData.showable d.py = true
  lv : PyData.leavesShort 13 d.py = true
theorem Sh.ok {k w : Nat} {d : D} (h : Sh k w d) (hk : k ≤ 64 := by decide) : d.ok = true := ok_of h.pl h.lay (Nat.le_trans h.dep hk)
theorem Sh.mono {j k v w : Nat} {d : D} (h : Sh j v d) (hk : j ≤ k) (hw : v ≤ w) : Sh k w d := ⟨h.pl, h.lay, Nat.le_trans h.dep hk, Nat.le_trans h.wt hw, h.sh, h.lv⟩
theorem Sh.len {k w : Nat} {d : D} (h : Sh k w d) (hw : w ≤ 1000000) : d.py.shown.length ≤ sizeLine :=
  PyData.shown_fits (B := 13) (by decide) (by decide) h.lv (Nat.le_trans h.wt (by omega))
theorem log_lt {n k : Nat} (h : n < 2 ^ k) (hk : 0 < k) : n.log2 < k := by
  by_cases h0 : n = 0
  · rw [h0]; simpa using hk
  · exact (Nat.log2_lt h0).mpr h
theorem sh_int {n : Int} (h : n.natAbs < 10 ^ 12) : Sh 0 40 (.int n) where
  pl := rfl
  lay := rfl
  dep := Nat.le_refl _
  wt := by
    show (if n == 0 then 0 else n.natAbs.log2 + 1) ≤ 40
    split
    · omega
    · exact log_lt (Nat.lt_trans h (by decide)) (by decide)
  sh := by
    show decide (n.natAbs.log2 < 1920) = true
    exact decide_eq_true (Nat.lt_trans (log_lt (k := 40) (Nat.lt_trans h (by decide)) (by decide)) (by decide))
  lv := by
    show decide (_ ≤ 13) = true
    exact decide_eq_true (PyData.shown_int_le h)
theorem sh_all {k w : Nat} : ∀ {ds : List D}, (∀ d ∈ ds, Sh k w d) → D.plL ds = true ∧ PyData.canLayAll0 (D.pyL ds) = true ∧ PyData.depthAll (D.pyL ds) ≤ k ∧ PyData.weightAll (D.pyL ds) ≤ ds.length * (w + 1) ∧ PyData.showableAll (D.pyL ds) = true ∧ PyData.leavesShortAll 13 (D.pyL ds) = true
  | [], _ => ⟨rfl, rfl, Nat.zero_le _, Nat.zero_le _, rfl, rfl⟩
  | d :: r, h => by
    obtain ⟨h1, h2, h3, h4, h5, h6⟩ := sh_all (ds := r) fun x hx => h x (List.mem_cons_of_mem _ hx)
    obtain ⟨g1, g2, g3, g4, g5, g6⟩ := h d (List.mem_cons_self ..)
    refine ⟨?_, ?_, ?_, ?_, ?_, ?_⟩
    · simp only [D.plL, g1, h1]; rfl
    · simp only [D.pyL, PyData.canLayAll0, g2, h2]; rfl
    · simp only [D.pyL, PyData.depthAll]
      exact Nat.max_le.mpr ⟨g3, h3⟩
    · simp only [D.pyL, PyData.weightAll, List.length_cons, Nat.add_mul]
      omega
    · simp only [D.pyL, PyData.showableAll, g5, h5]; rfl
    · simp only [D.pyL, PyData.leavesShortAll, g6, h6]; rfl
theorem sh_tup {k w v : Nat} {ds : List D} (h : ∀ d ∈ ds, Sh k w d) (hv : ds.length * (w + 1) ≤ v) : Sh (k + 1) v (.tup ds) := by
  obtain ⟨h1, h2, h3, h4, h5, h6⟩ := sh_all h
  exact ⟨by simp only [D.pl]; exact h1, by simp only [D.py, PyData.canLay0]; exact h2, by simp only [D.py, PyData.depth]; omega, by simp only [D.py, PyData.weight]; omega,
    by simp only [D.py, PyData.showable]; exact h5, by simp only [D.py, PyData.leavesShort]; exact h6⟩
theorem sh_ints {ns : List Int} (h : ∀ n ∈ ns, n.natAbs < 10 ^ 12) {d : D} (hd : d ∈ ns.map D.int) : Sh 0 40 d := by
  obtain ⟨n, hn, rfl⟩ := List.mem_map.mp hd
  exact sh_int (h n hn)
/-- repr(d) -/
theorem repr_of {k w : Nat} {d : D} {M : Mem} {Q : D → Mem → Prop} (h : Sh k w d) (hd : d.deep = true) (hk : k ≤ 64) (hw : w ≤ 1000000) (q : Q (.str d.py.shown) M) : gcRepr [d] M Q := ⟨⟨hd, h.ok hk, h.sh, h.len hw⟩, q⟩
/-- a loop by what holds between the turns; N: what comes behind a turn -/
theorem loop_inv {gt : GG} {gb : GS} {D : DEnds} (I : List DL.D → DL.Fr → Mem → Prop) (h0 : ∀ r M, I [] r M → D.nx r M)
    (h1 : ∀ d ds r M, I (d :: ds) r M → ∀ N : DL.Fr → Mem → Prop, (∀ r M, I ds r M → N r M) → gt d r M fun r' M' => gb { D with nx := N, ct := N, bk := D.nx } r' M') :
    ∀ ds r M, I ds r M → loopD gt gb ds D r M :=
  loop_ind I h0 fun d ds r M ih h => h1 d ds r M h _ ih
/-- < of numbers, of tuples of numbers -/
def goLtA : GO := fun d e M Q => match d, e with
  | .int i, .int j => Q (.bl (decide (i < j))) M
  | .tup xs, .tup ys => ∃ ns ms, intsOf xs = some ns ∧ intsOf ys = some ms ∧ Q (.bl (HT.lexLt ns ms)) M
  | _, _ => False
theorem od_ltA {X : Cx} (hu : X.A.units < cLine) : OpD X (compareOp .Lt) goLtA where
  ex := ⟨_, op_lt.or (op_ltT hu), fun B E σ H r M O x y d e Q R i1 i2 q => by
    unfold goLtA at q
    split at q
    · rw [is1_int i1, is1_int i2]
      exact .inl ⟨_, _, rfl, rfl, fin_v R (.bl _) q⟩
    · obtain ⟨a, vs, rfl, h1, l1⟩ := i1
      obtain ⟨b, us, rfl, h2, l2⟩ := i2
      obtain ⟨ns, ms, e1, e2, q⟩ := q
      rw [of_intsOf l1 e1] at h1
      rw [of_intsOf l2 e2] at h2
      exact .inr ⟨a, b, ns, ms, rfl, rfl, h1, h2, fin_v R (.bl _) q⟩
    · exact q.elim⟩
  mono := fun d e M Q Q' h q => by
    unfold goLtA at q ⊢
    split at q
    · exact h _ _ q
    · obtain ⟨ns, ms, e1, e2, q⟩ := q
      exact ⟨ns, ms, e1, e2, h _ _ q⟩
    · exact q
end DL
set_option Elab.async false
set_option linter.all false
namespace DL
open PySem PySem.Spec PySem.W PyProof.Rows L2
section
variable {M : Mem} {Q : D → Mem → Prop} {r : DL.Fr} {i j : Int} {x y : PySem.Str} {xs ys : List D} {b c : Bool} {kvs : List (Key × D)}
theorem goAdd_int : goAdd (.int i) (.int j) M Q = Q (.int (i + j)) M := rfl
theorem goAdd_str : goAdd (.str x) (.str y) M Q = (x.length + y.length ≤ sizeLine ∧ Q (.str (x ++ y)) M) := rfl
theorem goAdd_tup : goAdd (.tup xs) (.tup ys) M Q = (xs.length + ys.length ≤ sizeLine ∧ Q (.tup (xs ++ ys)) M) := rfl
theorem goAdd_lst : goAdd (.lst xs) (.lst ys) M Q = (xs.length + ys.length ≤ sizeLine ∧ Q (.lst (xs ++ ys)) M) := rfl
theorem goAddW_int : goAddW (.int i) (.int j) M Q = Q (.int (i + j)) M := rfl
theorem goAddW_lst : goAddW (.lst xs) (.lst ys) M Q = (xs.length + ys.length ≤ sizeLine ∧ Q (.lst (xs ++ ys)) M) := rfl
theorem goPlus_int : goPlus (.int i) (.int j) M Q = Q (.int (i + j)) M := rfl
theorem goI_int {C : Int → Int → Prop} {f : Int → Int → D} : goI C f (.int i) (.int j) M Q = (C i j ∧ Q (f i j) M) := rfl
theorem guI_int {f : Int → D} : guI f (.int i) M Q = Q (f i) M := rfl
theorem gcI1_int {f : Int → D} : gcI1 f [.int i] M Q = Q (f i) M := rfl
theorem goIx_lst : goIx (.lst xs) (.int i) M Q = match atI xs i with | some z => Q z M | none => False := rfl
theorem gcLen_lst : gcLen [.lst xs] M Q = Q (.int xs.length) M := rfl
theorem gcTupleS_lst : gcTupleS [.lst xs] M Q = Q (.tup xs) M := rfl
theorem gcList_lst : gcList [.lst xs] M Q = Q (.lst xs) M := rfl
theorem goRevA_lst : goRevA (.lst xs) M Q = Q (.lst xs.reverse) M := rfl
theorem goIx_tup : goIx (.tup xs) (.int i) M Q = match atI xs i with | some z => Q z M | none => False := rfl
theorem gcLen_tup : gcLen [.tup xs] M Q = Q (.int xs.length) M := rfl
theorem gcTupleS_tup : gcTupleS [.tup xs] M Q = Q (.tup xs) M := rfl
theorem gcList_tup : gcList [.tup xs] M Q = Q (.lst xs) M := rfl
theorem goRevA_tup : goRevA (.tup xs) M Q = Q (.tup xs.reverse) M := rfl
theorem gcTuple_lst : gcTuple [.lst xs] M Q = Q (.tup xs) M := rfl
theorem goIx_str : goIx (.str x) (.int i) M Q = (x.length ≤ sizeLine ∧ match atI x.cps.toList i with | some c => Q (.str ⟨#[c]⟩) M | none => False) := rfl
theorem gcLen_str : gcLen [.str x] M Q = (x.length ≤ sizeLine ∧ Q (.int x.length) M) := rfl
theorem gcInt_int : gcInt [.int i] M Q = Q (.int i) M := rfl
theorem gcInt_bl : gcInt [.bl b] M Q = Q (.int (if b then 1 else 0)) M := rfl
theorem goMulT_tup : goMulT (.tup xs) (.int i) M Q = ((xs ≠ [] ∧ -1000000 ≤ i ∧ i ≤ 1000 ∧ xs.length ≤ 1000) ∧ Q (.tup (repD i xs)) M) := rfl
theorem goIsB_bl {n : Bool} : goIsB n (.bl b) (.bl c) M Q = Q (.bl (xor n (decide (b = c)))) M := rfl
theorem goIsN_non {n : Bool} {d : D} : goIsN n d .non M Q = Q (.bl (xor n d.isN)) M := rfl
theorem isN_int {z} : D.isN (.int z) = false := rfl
theorem isN_bl {z} : D.isN (.bl z) = false := rfl
theorem isN_str {z} : D.isN (.str z) = false := rfl
theorem isN_tup {z} : D.isN (.tup z) = false := rfl
theorem isN_lst {z} : D.isN (.lst z) = false := rfl
theorem isN_dic {z} : D.isN (.dic z) = false := rfl
theorem isN_ref {z} : D.isN (.ref z) = false := rfl
theorem isN_ty {z} : D.isN (.ty z) = false := rfl
theorem isN_non : D.isN .non = true := rfl
def truK (d : D) (M : Mem) (Q : Bool → Mem → Prop) : Prop := match d with
  | .non => Q false M
  | .bl b => Q b M
  | .int i => Q (i != 0) M
  | .str x => x.length ≤ sizeLine ∧ Q ((x.length : Int) != 0) M
  | .lst xs => Q (!xs.isEmpty) M
  | .tup xs => Q (!xs.isEmpty) M
  | .dic xs => Q (!xs.isEmpty) M
  | _ => False
theorem gTru_k {ga : GE} {Q : Bool → Mem → Prop} : gTru ga r M Q = ga r M fun d M1 => truK d M1 Q := by
  unfold gTru
  congr 1
theorem truK_non {Q : Bool → Mem → Prop} : truK .non M Q = Q false M := rfl
theorem truK_bl {Q : Bool → Mem → Prop} : truK (.bl b) M Q = Q b M := rfl
theorem truK_int {Q : Bool → Mem → Prop} : truK (.int i) M Q = Q (i != 0) M := rfl
theorem truK_lst {Q : Bool → Mem → Prop} : truK (.lst xs) M Q = Q (!xs.isEmpty) M := rfl
theorem truK_tup {Q : Bool → Mem → Prop} : truK (.tup xs) M Q = Q (!xs.isEmpty) M := rfl
theorem truK_str {Q : Bool → Mem → Prop} : truK (.str x) M Q = (x.length ≤ sizeLine ∧ Q ((x.length : Int) != 0) M) := rfl
def lstK (d : D) (M : Mem) (Q : OM → Mem → Prop) : Prop := match d with
  | .lst xs => Q (.lst xs) M
  | .tup xs => Q (.lst xs) M
  | .dic kds => Q (.lst (kds.map fun kv => kD kv.1)) M
  | _ => False
theorem gFlist_k {ga : GE} {Q : OM → Mem → Prop} : gFlist ga r M Q = ga r M fun d M1 => lstK d M1 Q := by
  unfold gFlist
  congr 1
theorem lstK_lst {Q : OM → Mem → Prop} : lstK (.lst xs) M Q = Q (.lst xs) M := rfl
theorem lstK_dic {kds : List (Key × D)} {Q : OM → Mem → Prop} : lstK (.dic kds) M Q = Q (.lst (kds.map fun kv => kD kv.1)) M := rfl
theorem gcLen_dic {kds : List (Key × D)} : gcLen [.dic kds] M Q = Q (.int kds.length) M := rfl
theorem goIx_dic {kds : List (Key × D)} {e : D} : goIx (.dic kds) e M Q = dgetK kds e M Q := rfl
theorem truK_dic {kds : List (Key × D)} {Q : Bool → Mem → Prop} : truK (.dic kds) M Q = Q (!kds.isEmpty) M := rfl
theorem lstK_tup {Q : OM → Mem → Prop} : lstK (.tup xs) M Q = Q (.lst xs) M := rfl
def slK (w : Bool) (d : D) (lo hi : Option Int) (M : Mem) (Q : D → Mem → Prop) : Prop := match d with
  | .lst xs => Q (.lst (cutD xs lo hi)) M
  | .tup xs => w = true ∧ Q (.tup (cutD xs lo hi)) M
  | .str x => x.length ≤ sizeLine ∧ Q (.str (cutS x lo hi)) M
  | _ => False
theorem gsSl_k {w : Bool} {ga : GE} {gl gh : GO'} : gsSl w ga gl gh r M Q = ga r M fun d M1 => gl r M1 fun lo M2 => gh r M2 fun hi M3 => slK w d lo hi M3 Q := by
  unfold gsSl
  congr 1
theorem slK_lst {w : Bool} {lo hi : Option Int} : slK w (.lst xs) lo hi M Q = Q (.lst (cutD xs lo hi)) M := rfl
theorem slK_tup {lo hi : Option Int} : slK true (.tup xs) lo hi M Q = Q (.tup (cutD xs lo hi)) M := propext ⟨fun h => h.2, fun h => ⟨rfl, h⟩⟩
theorem slK_str {w : Bool} {lo hi : Option Int} : slK w (.str x) lo hi M Q = (x.length ≤ sizeLine ∧ Q (.str (cutS x lo hi)) M) := rfl
def itsK (f : List D → List D) (d : D) (M : Mem) (Q : List D → Mem → Prop) : Prop := match d with
  | .lst ds => Q (f ds) M
  | .tup ds => Q (f ds) M
  | _ => False
theorem itsD_k {f : List D → List D} {ga : GE} {Q : List D → Mem → Prop} : itsD f ga r M Q = ga r M fun d M1 => itsK f d M1 Q := by
  unfold itsD
  congr 1
theorem itsK_lst {f : List D → List D} {Q : List D → Mem → Prop} : itsK f (.lst xs) M Q = Q (f xs) M := rfl
theorem itsK_tup {f : List D → List D} {Q : List D → Mem → Prop} : itsK f (.tup xs) M Q = Q (f xs) M := rfl
def zipK (ds : List D) (M : Mem) (Q : List D → Mem → Prop) : Prop := match ds with
  | [.lst xs, .lst ys] => Q (zipD xs ys) M
  | [.tup xs, .tup ys] => Q (zipD xs ys) M
  | _ => False
theorem giZip_k {gs : GA} {Q : List D → Mem → Prop} : giZip gs r M Q = gs r M fun ds M1 => zipK ds M1 Q := by
  unfold giZip
  congr 1
theorem zipK_lst {Q : List D → Mem → Prop} : zipK [.lst xs, .lst ys] M Q = Q (zipD xs ys) M := rfl
theorem zipK_tup {Q : List D → Mem → Prop} : zipK [.tup xs, .tup ys] M Q = Q (zipD xs ys) M := rfl
def ran1K (ds : List D) (M : Mem) (Q : List D → Mem → Prop) : Prop := match ds with
  | [.int j] => (-(2 ^ 62) ≤ j ∧ j < 2 ^ 62) ∧ Q (rngD 0 j.toNat) M
  | _ => False
theorem giR1_k {gs : GA} {Q : List D → Mem → Prop} : giR1 gs r M Q = gs r M fun ds M1 => ran1K ds M1 Q := by
  unfold giR1
  congr 1
theorem ran1K_nat {n : Nat} {Q : List D → Mem → Prop} : ran1K [.int (n : Int)] M Q = ((n : Int) < 2 ^ 62 ∧ Q (rngD 0 n) M) := propext ⟨fun h => ⟨h.1.2, by have := h.2; rwa [Int.toNat_natCast] at this⟩, fun h => ⟨⟨by omega, h.1⟩, by rw [Int.toNat_natCast]; exact h.2⟩⟩
theorem ran1K_int {Q : List D → Mem → Prop} : ran1K [.int i] M Q = ((-(2 ^ 62) ≤ i ∧ i < 2 ^ 62) ∧ Q (rngD 0 i.toNat) M) := rfl
def ran2K (ds : List D) (M : Mem) (Q : List D → Mem → Prop) : Prop := match ds with
  | [.int i, .int j] => (-(2 ^ 62) ≤ i ∧ i < 2 ^ 62 ∧ -(2 ^ 62) ≤ j ∧ j < 2 ^ 62) ∧ Q (rngD i (j - i).toNat) M
  | _ => False
theorem giR2_k {gs : GA} {Q : List D → Mem → Prop} : giR2 gs r M Q = gs r M fun ds M1 => ran2K ds M1 Q := by
  unfold giR2
  congr 1
theorem ran2K_int {Q : List D → Mem → Prop} : ran2K [.int i, .int j] M Q = ((-(2 ^ 62) ≤ i ∧ i < 2 ^ 62 ∧ -(2 ^ 62) ≤ j ∧ j < 2 ^ 62) ∧ Q (rngD i (j - i).toNat) M) := rfl
theorem goLtA_int : goLtA (.int i) (.int j) M Q = Q (.bl (decide (i < j))) M := rfl
theorem goLtA_tup {ns ms : List Int} : goLtA (.tup (ns.map .int)) (.tup (ms.map .int)) M Q = Q (.bl (HT.lexLt ns ms)) M := propext ⟨fun ⟨a, b, h1, h2, q⟩ => by
    rw [intsOf_map] at h1 h2
    cases h1; cases h2
    exact q, fun q => ⟨ns, ms, intsOf_map _, intsOf_map _, q⟩⟩
theorem ok_non : D.ok .non = true := rfl
theorem eqv_bl (a b : Bool) : D.eqv (.bl a) (.bl b) = decide (a = b) := by cases a <;> cases b <;> simp [D.eqv, D.py, PyData.eqv]
/-- numbers, truths, texts; else what is ok -/
def goEqA : GO := fun d e M Q => match d, e with
  | .int i, .int j => Q (.bl (decide (i = j))) M
  | .bl i, .bl j => Q (.bl (decide (i = j))) M
  | .str i, .str j => Q (.bl (decide (i = j))) M
  | d, e => (d.ok = true ∧ e.ok = true) ∧ Q (.bl (d.eqv e)) M
def goNeA : GO := fun d e M Q => match d, e with
  | .int i, .int j => Q (.bl (!decide (i = j))) M
  | .bl i, .bl j => Q (.bl (!decide (i = j))) M
  | .str i, .str j => Q (.bl (!decide (i = j))) M
  | d, e => (d.ok = true ∧ e.ok = true) ∧ Q (.bl (!d.eqv e)) M
theorem decV_int {i j : Int} : decide (V.int i = V.int j) = decide (i = j) := by
  by_cases h : i = j
  · subst h; simp
  · rw [decide_eq_false h, decide_eq_false fun z => h (by cases z; rfl)]
theorem decV_bl {i j : Bool} : decide (V.bl i = V.bl j) = decide (i = j) := by
  by_cases h : i = j
  · subst h; simp
  · rw [decide_eq_false h, decide_eq_false fun z => h (by cases z; rfl)]
theorem decV_str {i j : PySem.Str} : decide (V.str i = V.str j) = decide (i = j) := by
  by_cases h : i = j
  · subst h; simp
  · rw [decide_eq_false h, decide_eq_false fun z => h (by cases z; rfl)]
theorem od_eqA {X : Cx} (hu : X.A.units + 64 < cLine) : OpD X (compareOp .Eq) goEqA where
  ex := ⟨_, op_eq.or (op_eqD hu), fun B E σ H r M O x y d e Q R i1 i2 q => by
    unfold goEqA at q
    split at q
    · rw [is1_int i1, is1_int i2]
      exact .inl ⟨rfl, by rw [decV_int]; exact fin_v R (.bl _) q⟩
    · rw [is1_bl i1, is1_bl i2]
      exact .inl ⟨rfl, by rw [decV_bl]; exact fin_v R (.bl _) q⟩
    · rw [is1_str i1, is1_str i2]
      exact .inl ⟨rfl, by rw [decV_str]; exact fin_v R (.bl _) q⟩
    · exact .inr ⟨d.py, e.py, i1.dp (ok_and q.1.1).1, i2.dp (ok_and q.1.2).1, (ok_and q.1.1).2, (ok_and q.1.2).2, fin_v R (.bl _) q.2⟩⟩
  mono := fun d e M Q Q' h q => by
    unfold goEqA at q ⊢
    split at q
    · exact h _ _ q
    · exact h _ _ q
    · exact h _ _ q
    · exact ⟨q.1, h _ _ q.2⟩
theorem od_neA {X : Cx} (hu : X.A.units + 64 < cLine) : OpD X (compareOp .NotEq) goNeA where
  ex := ⟨_, op_ne.or (op_neD hu), fun B E σ H r M O x y d e Q R i1 i2 q => by
    unfold goNeA at q
    split at q
    · rw [is1_int i1, is1_int i2]
      exact .inl ⟨rfl, by rw [decV_int]; exact fin_v R (.bl _) q⟩
    · rw [is1_bl i1, is1_bl i2]
      exact .inl ⟨rfl, by rw [decV_bl]; exact fin_v R (.bl _) q⟩
    · rw [is1_str i1, is1_str i2]
      exact .inl ⟨rfl, by rw [decV_str]; exact fin_v R (.bl _) q⟩
    · exact .inr ⟨d.py, e.py, i1.dp (ok_and q.1.1).1, i2.dp (ok_and q.1.2).1, (ok_and q.1.1).2, (ok_and q.1.2).2, fin_v R (.bl _) q.2⟩⟩
  mono := fun d e M Q Q' h q => by
    unfold goNeA at q ⊢
    split at q
    · exact h _ _ q
    · exact h _ _ q
    · exact h _ _ q
    · exact ⟨q.1, h _ _ q.2⟩
theorem goEq_int : goEqA (.int i) (.int j) M Q = Q (.bl (decide (i = j))) M := rfl
theorem goNe_int : goNeA (.int i) (.int j) M Q = Q (.bl (!decide (i = j))) M := rfl
theorem goEq_bl : goEqA (.bl b) (.bl c) M Q = Q (.bl (decide (b = c))) M := rfl
theorem goNe_bl : goNeA (.bl b) (.bl c) M Q = Q (.bl (!decide (b = c))) M := rfl
theorem goEq_str : goEqA (.str x) (.str y) M Q = Q (.bl (decide (x = y))) M := rfl
theorem goNe_str : goNeA (.str x) (.str y) M Q = Q (.bl (!decide (x = y))) M := rfl
theorem goEq_tup {e : D} : goEqA (.tup xs) e M Q = ((D.ok (.tup xs) = true ∧ e.ok = true) ∧ Q (.bl (D.eqv (.tup xs) e)) M) := rfl
theorem goNe_tup {e : D} : goNeA (.tup xs) e M Q = ((D.ok (.tup xs) = true ∧ e.ok = true) ∧ Q (.bl (!D.eqv (.tup xs) e)) M) := rfl
theorem goEq_lst {e : D} : goEqA (.lst xs) e M Q = ((D.ok (.lst xs) = true ∧ e.ok = true) ∧ Q (.bl (D.eqv (.lst xs) e)) M) := rfl
theorem goNe_lst {e : D} : goNeA (.lst xs) e M Q = ((D.ok (.lst xs) = true ∧ e.ok = true) ∧ Q (.bl (!D.eqv (.lst xs) e)) M) := rfl
theorem goEq_non {e : D} : goEqA .non e M Q = ((D.ok .non = true ∧ e.ok = true) ∧ Q (.bl (D.eqv .non e)) M) := rfl
theorem goNe_non {e : D} : goNeA .non e M Q = ((D.ok .non = true ∧ e.ok = true) ∧ Q (.bl (!D.eqv .non e)) M) := rfl
def mx : List Int → Int
  | [] => 0
  | x :: r => r.foldl max x
theorem mx_mem {ns : List Int} (h : ns ≠ []) : mx ns ∈ ns := by
  cases ns with
  | nil => exact absurd rfl h
  | cons x r => exact (foldmax r x).1
theorem mx_ge {ns : List Int} {y : Int} (h : y ∈ ns) : y ≤ mx ns := by
  cases ns with
  | nil => cases h
  | cons x r => exact (foldmax r x).2 y h
theorem mx_eq {ns : List Int} {m : Int} (h1 : m ∈ ns) (h2 : ∀ y ∈ ns, y ≤ m) : m = mx ns := by
  have a := mx_ge h1
  have b := h2 _ (mx_mem (List.ne_nil_of_mem h1))
  omega
theorem gcMin_of {ns : List Int} (e : intsOf xs = some ns) : gcMinA [.lst xs] M Q = (ns ≠ [] ∧ Q (.int (mn ns)) M) := propext ⟨fun ⟨ms, h, h0, q⟩ => by
    rw [e] at h
    cases h
    have hn : ns ≠ [] := List.length_pos_iff.mp h0
    exact ⟨hn, q _ (mn_mem hn) fun y hy => mn_le hy⟩, fun ⟨hn, q⟩ => ⟨ns, e, List.length_pos_iff.mpr hn, fun m h1 h2 => by rw [mn_eq h1 h2]; exact q⟩⟩
theorem gcMinT_of {ns : List Int} (e : intsOf xs = some ns) : gcMinA [.tup xs] M Q = (ns ≠ [] ∧ Q (.int (mn ns)) M) := propext ⟨fun ⟨ms, h, h0, q⟩ => by
    rw [e] at h
    cases h
    have hn : ns ≠ [] := List.length_pos_iff.mp h0
    exact ⟨hn, q _ (mn_mem hn) fun y hy => mn_le hy⟩, fun ⟨hn, q⟩ => ⟨ns, e, List.length_pos_iff.mpr hn, fun m h1 h2 => by rw [mn_eq h1 h2]; exact q⟩⟩
theorem gcMax_of {ns : List Int} (e : intsOf xs = some ns) : gcMaxA [.lst xs] M Q = (ns ≠ [] ∧ Q (.int (mx ns)) M) := propext ⟨fun ⟨ms, h, h0, q⟩ => by
    rw [e] at h
    cases h
    have hn : ns ≠ [] := List.length_pos_iff.mp h0
    exact ⟨hn, q _ (mx_mem hn) fun y hy => mx_ge hy⟩, fun ⟨hn, q⟩ => ⟨ns, e, List.length_pos_iff.mpr hn, fun m h1 h2 => by rw [mx_eq h1 h2]; exact q⟩⟩
theorem gcMaxT_of {ns : List Int} (e : intsOf xs = some ns) : gcMaxA [.tup xs] M Q = (ns ≠ [] ∧ Q (.int (mx ns)) M) := propext ⟨fun ⟨ms, h, h0, q⟩ => by
    rw [e] at h
    cases h
    have hn : ns ≠ [] := List.length_pos_iff.mp h0
    exact ⟨hn, q _ (mx_mem hn) fun y hy => mx_ge hy⟩, fun ⟨hn, q⟩ => ⟨ns, e, List.length_pos_iff.mpr hn, fun m h1 h2 => by rw [mx_eq h1 h2]; exact q⟩⟩
theorem gcMin_ints {ns : List Int} : gcMinA [.lst (ns.map .int)] M Q = (ns ≠ [] ∧ Q (.int (mn ns)) M) := gcMin_of (intsOf_map ns)
theorem gcMinT_ints {ns : List Int} : gcMinA [.tup (ns.map .int)] M Q = (ns ≠ [] ∧ Q (.int (mn ns)) M) := gcMinT_of (intsOf_map ns)
theorem gcMax_ints {ns : List Int} : gcMaxA [.lst (ns.map .int)] M Q = (ns ≠ [] ∧ Q (.int (mx ns)) M) := gcMax_of (intsOf_map ns)
theorem gcMaxT_ints {ns : List Int} : gcMaxA [.tup (ns.map .int)] M Q = (ns ≠ [] ∧ Q (.int (mx ns)) M) := gcMaxT_of (intsOf_map ns)
theorem intsOf_mapf {α : Type} (f : α → Int) : ∀ zs : List α, intsOf (zs.map fun z => D.int (f z)) = some (zs.map f)
  | [] => rfl
  | z :: r => by
    have h := intsOf_mapf f r
    show (intsOf (r.map fun z => D.int (f z))).map _ = _
    rw [h]
    rfl
theorem blsOf_mapf {α : Type} (f : α → Bool) : ∀ zs : List α, blsOf (zs.map fun z => D.bl (f z)) = some (zs.map f)
  | [] => rfl
  | z :: r => by
    have h := blsOf_mapf f r
    show (blsOf (r.map fun z => D.bl (f z))).map _ = _
    rw [h]
    rfl
theorem gcMin_f {α : Type} {f : α → Int} {zs : List α} : gcMinA [.lst (zs.map fun z => D.int (f z))] M Q = (zs.map f ≠ [] ∧ Q (.int (mn (zs.map f))) M) := gcMin_of (intsOf_mapf f zs)
theorem gcMax_f {α : Type} {f : α → Int} {zs : List α} : gcMaxA [.lst (zs.map fun z => D.int (f z))] M Q = (zs.map f ≠ [] ∧ Q (.int (mx (zs.map f))) M) := gcMax_of (intsOf_mapf f zs)
theorem gcMin_2 : gcMinA [.int i, .int j] M Q = Q (.int (min i j)) M := by
  have e : (if j < i then j else i) = min i j := by split <;> omega
  rw [← e]
  rfl
theorem gcMax_2 : gcMaxA [.int i, .int j] M Q = Q (.int (max i j)) M := by
  have e : (if j > i then j else i) = max i j := by split <;> omega
  rw [← e]
  rfl
theorem gcSum_ints {ns : List Int} : gcSum [.lst (ns.map .int)] M Q = Q (.int ns.sum) M := propext ⟨fun ⟨ms, h, q⟩ => by
    rw [intsOf_map] at h
    cases h
    exact q, fun q => ⟨ns, intsOf_map ns, q⟩⟩
theorem gcSum_f {α : Type} {f : α → Int} {zs : List α} : gcSum [.lst (zs.map fun z => D.int (f z))] M Q = Q (.int (zs.map f).sum) M := propext ⟨fun ⟨ms, h, q⟩ => by
    rw [intsOf_mapf] at h
    cases h
    exact q, fun q => ⟨_, intsOf_mapf f zs, q⟩⟩
theorem gcBls_f {α : Type} {g : List Bool → Bool} {f : α → Bool} {zs : List α} : gcBls g [.lst (zs.map fun z => D.bl (f z))] M Q = Q (.bl (g (zs.map f))) M := propext ⟨fun ⟨ms, h, q⟩ => by
    rw [blsOf_mapf] at h
    cases h
    exact q, fun q => ⟨_, blsOf_mapf f zs, q⟩⟩
theorem all_mapid {α : Type} {f : α → Bool} {zs : List α} : (zs.map f).all _root_.id = zs.all f := by simp
theorem any_mapid {α : Type} {f : α → Bool} {zs : List α} : (zs.map f).any _root_.id = zs.any f := by simp
theorem at_0 {α : Type} {a : α} {l : List α} : atI (a :: l) 0 = some a := by
  unfold atI ixN
  rw [if_pos (by decide), if_pos (by simp <;> omega)]
  rfl
theorem at_1 {α : Type} {a b : α} {l : List α} : atI (a :: b :: l) 1 = some b := by
  unfold atI ixN
  rw [if_pos (by decide), if_pos (by simp <;> omega)]
  rfl
theorem at_2 {α : Type} {a b c : α} {l : List α} : atI (a :: b :: c :: l) 2 = some c := by
  unfold atI ixN
  rw [if_pos (by decide), if_pos (by simp <;> omega)]
  rfl
theorem at_3 {α : Type} {a b c d : α} {l : List α} : atI (a :: b :: c :: d :: l) 3 = some d := by
  unfold atI ixN
  rw [if_pos (by decide), if_pos (by simp <;> omega)]
  rfl
theorem at_last {α : Type} {a : α} {l : List α} : atI (l ++ [a]) (-1) = some a := by
  unfold atI ixN
  rw [if_neg (by decide), if_pos (by simp <;> omega)]
  show (l ++ [a])[(-1 + ((l ++ [a]).length : Int)).toNat]? = _
  rw [List.length_append, List.length_singleton, show (-1 + ((l.length + 1 : Nat) : Int)).toNat = l.length by omega]
  simp
def nof : Sl → Bool
  | .o _ => false
  | _ => true
theorem noOwn_nil : noOwn r [] = true := rfl
theorem noOwn_1 {k : Nat} : noOwn r [k] = (match r.sl[k]? with | some s => nof s | none => true) := by
  show ((match r.sl[k]? with
    | some (.o _) => false
    | _ => true) && _) = _
  cases h : r.sl[k]? with
  | none => rfl
  | some s => cases s <;> rfl
theorem noOwn_2 {k j : Nat} : noOwn r [k, j] = ((match r.sl[k]? with | some s => nof s | none => true) && (match r.sl[j]? with | some s => nof s | none => true)) := by
  have h : noOwn r [k, j] = (noOwn r [k] && noOwn r [j]) := by
    show (_ && (_ && true)) = ((_ && true) && (_ && true))
    simp
  rw [h, noOwn_1, noOwn_1]
theorem nof_n : nof .n = true := rfl
theorem nof_v {d : D} : nof (.v d) = true := rfl
theorem nof_b {k : Bool} {ds : List D} : nof (.b k ds) = true := rfl
theorem nof_s {ns : List Int} : nof (.s ns) = true := rfl
theorem zipD_map {α β : Type} {f : α → D} {g : β → D} : ∀ {as : List α} {bs : List β}, zipD (as.map f) (bs.map g) = (as.zip bs).map fun p => .tup [f p.1, g p.2]
  | [], _ => rfl
  | _ :: _, [] => rfl
  | a :: as, b :: bs => congrArg (_ :: ·) (zipD_map (as := as) (bs := bs))
theorem enumD_map {α : Type} {f : α → D} : ∀ {as : List α} {k : Nat}, enumD k (as.map f) = (as.zipIdx k).map fun p => .tup [.int (p.2 : Nat), f p.1]
  | [], _ => rfl
  | a :: as, k => congrArg (_ :: ·) (enumD_map (as := as) (k := k + 1))
end
section
variable {gt : GG} {gtt : GT} {ge : GE} {r : DL.Fr} {M : Mem} {Q : List D → Mem → Prop} {α : Type} {enc : α → D} {f : α → D}
theorem lc_mp {xs : List α} {acc : List D} (h : ∀ x ∈ xs, ∀ Q' : D → Mem → Prop, Q' (f x) M → gt (enc x) r M fun r1 M1 => ge r1 M1 Q') (hz : acc.length + xs.length ≤ sizeLine) (q : Q (acc ++ xs.map f) M) : lcD gt gYes ge r (xs.map enc) acc M Q := by
  induction xs generalizing acc with
  | nil =>
    show Q acc M
    simpa using q
  | cons x xs ih =>
    have hz' : acc.length + (xs.length + 1) ≤ sizeLine := hz
    refine h x (List.mem_cons_self ..) _ ⟨by omega, ih (fun y hy => h y (List.mem_cons_of_mem _ hy)) ?_ ?_⟩
    · rw [List.length_append, List.length_cons, List.length_nil]; omega
    · rw [List.append_assoc]; exact q
theorem lc_fp {p : α → Bool} {xs : List α} {acc : List D}
    (h : ∀ x ∈ xs, ∀ Q' : D → Mem → Prop, ∀ P' : Mem → Prop, (p x = true → Q' (f x) M) → (p x = false → P' M) → gt (enc x) r M fun r1 M1 => gtt r1 M1 fun b M2 => if b = true then ge r1 M2 Q' else P' M2)
    (hz : acc.length + xs.length ≤ sizeLine) (q : Q (acc ++ (xs.filter p).map f) M) : lcD gt gtt ge r (xs.map enc) acc M Q := by
  induction xs generalizing acc with
  | nil =>
    show Q acc M
    simpa using q
  | cons x xs ih =>
    have hz' : acc.length + (xs.length + 1) ≤ sizeLine := hz
    refine h x (List.mem_cons_self ..) (fun z M3 => acc.length < sizeLine ∧ lcD gt gtt ge r (xs.map enc) (acc ++ [z]) M3 Q) (fun M2 => lcD gt gtt ge r (xs.map enc) acc M2 Q) (fun e => ⟨by omega, ih (fun y hy => h y (List.mem_cons_of_mem _ hy)) ?_ ?_⟩) fun e => ih (fun y hy => h y (List.mem_cons_of_mem _ hy)) (by omega) ?_
    · rw [List.length_append, List.length_cons, List.length_nil]; omega
    · rw [List.append_assoc]
      rw [List.filter_cons_of_pos e] at q
      exact q
    · rw [List.filter_cons_of_neg (by rw [e]; simp)] at q
      exact q
theorem loop_mp {gb : GS} {D' : DEnds} (I : List α → DL.Fr → Mem → Prop) (h0 : ∀ r M, I [] r M → D'.nx r M)
    (h1 : ∀ x xs r M, I (x :: xs) r M → ∀ N : DL.Fr → Mem → Prop, (∀ r M, I xs r M → N r M) → gt (enc x) r M fun r' M' => gb { D' with nx := N, ct := N, bk := D'.nx } r' M') :
    ∀ xs r M, I xs r M → loopD gt gb (xs.map enc) D' r M
  | [], r, M, h => h0 r M h
  | x :: xs, r, M, h => h1 x xs r M h _ (loop_mp I h0 h1 xs)
end
section
variable {M : Mem} {Q : D → Mem → Prop}
theorem isi_non_int  : gcIsi [.non, .ty "int"] M Q = Q (.bl false) M := propext ⟨fun ⟨_, t, h, q⟩ => by cases h; exact q, fun q => ⟨by decide, "NoneType", rfl, q⟩⟩
theorem isi_non_bool  : gcIsi [.non, .ty "bool"] M Q = Q (.bl false) M := propext ⟨fun ⟨_, t, h, q⟩ => by cases h; exact q, fun q => ⟨by decide, "NoneType", rfl, q⟩⟩
theorem isi_non_str  : gcIsi [.non, .ty "str"] M Q = Q (.bl false) M := propext ⟨fun ⟨_, t, h, q⟩ => by cases h; exact q, fun q => ⟨by decide, "NoneType", rfl, q⟩⟩
theorem isi_non_tuple  : gcIsi [.non, .ty "tuple"] M Q = Q (.bl false) M := propext ⟨fun ⟨_, t, h, q⟩ => by cases h; exact q, fun q => ⟨by decide, "NoneType", rfl, q⟩⟩
theorem isi_non_list  : gcIsi [.non, .ty "list"] M Q = Q (.bl false) M := propext ⟨fun ⟨_, t, h, q⟩ => by cases h; exact q, fun q => ⟨by decide, "NoneType", rfl, q⟩⟩
theorem isi_non_dict  : gcIsi [.non, .ty "dict"] M Q = Q (.bl false) M := propext ⟨fun ⟨_, t, h, q⟩ => by cases h; exact q, fun q => ⟨by decide, "NoneType", rfl, q⟩⟩
theorem isi_bl_int (z : Bool) : gcIsi [.bl z, .ty "int"] M Q = Q (.bl true) M := propext ⟨fun ⟨_, t, h, q⟩ => by cases h; exact q, fun q => ⟨by decide, "bool", rfl, q⟩⟩
theorem isi_bl_bool (z : Bool) : gcIsi [.bl z, .ty "bool"] M Q = Q (.bl true) M := propext ⟨fun ⟨_, t, h, q⟩ => by cases h; exact q, fun q => ⟨by decide, "bool", rfl, q⟩⟩
theorem isi_bl_str (z : Bool) : gcIsi [.bl z, .ty "str"] M Q = Q (.bl false) M := propext ⟨fun ⟨_, t, h, q⟩ => by cases h; exact q, fun q => ⟨by decide, "bool", rfl, q⟩⟩
theorem isi_bl_tuple (z : Bool) : gcIsi [.bl z, .ty "tuple"] M Q = Q (.bl false) M := propext ⟨fun ⟨_, t, h, q⟩ => by cases h; exact q, fun q => ⟨by decide, "bool", rfl, q⟩⟩
theorem isi_bl_list (z : Bool) : gcIsi [.bl z, .ty "list"] M Q = Q (.bl false) M := propext ⟨fun ⟨_, t, h, q⟩ => by cases h; exact q, fun q => ⟨by decide, "bool", rfl, q⟩⟩
theorem isi_bl_dict (z : Bool) : gcIsi [.bl z, .ty "dict"] M Q = Q (.bl false) M := propext ⟨fun ⟨_, t, h, q⟩ => by cases h; exact q, fun q => ⟨by decide, "bool", rfl, q⟩⟩
theorem isi_int_int (z : Int) : gcIsi [.int z, .ty "int"] M Q = Q (.bl true) M := propext ⟨fun ⟨_, t, h, q⟩ => by cases h; exact q, fun q => ⟨by decide, "int", rfl, q⟩⟩
theorem isi_int_bool (z : Int) : gcIsi [.int z, .ty "bool"] M Q = Q (.bl false) M := propext ⟨fun ⟨_, t, h, q⟩ => by cases h; exact q, fun q => ⟨by decide, "int", rfl, q⟩⟩
theorem isi_int_str (z : Int) : gcIsi [.int z, .ty "str"] M Q = Q (.bl false) M := propext ⟨fun ⟨_, t, h, q⟩ => by cases h; exact q, fun q => ⟨by decide, "int", rfl, q⟩⟩
theorem isi_int_tuple (z : Int) : gcIsi [.int z, .ty "tuple"] M Q = Q (.bl false) M := propext ⟨fun ⟨_, t, h, q⟩ => by cases h; exact q, fun q => ⟨by decide, "int", rfl, q⟩⟩
theorem isi_int_list (z : Int) : gcIsi [.int z, .ty "list"] M Q = Q (.bl false) M := propext ⟨fun ⟨_, t, h, q⟩ => by cases h; exact q, fun q => ⟨by decide, "int", rfl, q⟩⟩
theorem isi_int_dict (z : Int) : gcIsi [.int z, .ty "dict"] M Q = Q (.bl false) M := propext ⟨fun ⟨_, t, h, q⟩ => by cases h; exact q, fun q => ⟨by decide, "int", rfl, q⟩⟩
theorem isi_str_int (z : PySem.Str) : gcIsi [.str z, .ty "int"] M Q = Q (.bl false) M := propext ⟨fun ⟨_, t, h, q⟩ => by cases h; exact q, fun q => ⟨by decide, "str", rfl, q⟩⟩
theorem isi_str_bool (z : PySem.Str) : gcIsi [.str z, .ty "bool"] M Q = Q (.bl false) M := propext ⟨fun ⟨_, t, h, q⟩ => by cases h; exact q, fun q => ⟨by decide, "str", rfl, q⟩⟩
theorem isi_str_str (z : PySem.Str) : gcIsi [.str z, .ty "str"] M Q = Q (.bl true) M := propext ⟨fun ⟨_, t, h, q⟩ => by cases h; exact q, fun q => ⟨by decide, "str", rfl, q⟩⟩
theorem isi_str_tuple (z : PySem.Str) : gcIsi [.str z, .ty "tuple"] M Q = Q (.bl false) M := propext ⟨fun ⟨_, t, h, q⟩ => by cases h; exact q, fun q => ⟨by decide, "str", rfl, q⟩⟩
theorem isi_str_list (z : PySem.Str) : gcIsi [.str z, .ty "list"] M Q = Q (.bl false) M := propext ⟨fun ⟨_, t, h, q⟩ => by cases h; exact q, fun q => ⟨by decide, "str", rfl, q⟩⟩
theorem isi_str_dict (z : PySem.Str) : gcIsi [.str z, .ty "dict"] M Q = Q (.bl false) M := propext ⟨fun ⟨_, t, h, q⟩ => by cases h; exact q, fun q => ⟨by decide, "str", rfl, q⟩⟩
theorem isi_tup_int (z : List D) : gcIsi [.tup z, .ty "int"] M Q = Q (.bl false) M := propext ⟨fun ⟨_, t, h, q⟩ => by cases h; exact q, fun q => ⟨by decide, "tuple", rfl, q⟩⟩
theorem isi_tup_bool (z : List D) : gcIsi [.tup z, .ty "bool"] M Q = Q (.bl false) M := propext ⟨fun ⟨_, t, h, q⟩ => by cases h; exact q, fun q => ⟨by decide, "tuple", rfl, q⟩⟩
theorem isi_tup_str (z : List D) : gcIsi [.tup z, .ty "str"] M Q = Q (.bl false) M := propext ⟨fun ⟨_, t, h, q⟩ => by cases h; exact q, fun q => ⟨by decide, "tuple", rfl, q⟩⟩
theorem isi_tup_tuple (z : List D) : gcIsi [.tup z, .ty "tuple"] M Q = Q (.bl true) M := propext ⟨fun ⟨_, t, h, q⟩ => by cases h; exact q, fun q => ⟨by decide, "tuple", rfl, q⟩⟩
theorem isi_tup_list (z : List D) : gcIsi [.tup z, .ty "list"] M Q = Q (.bl false) M := propext ⟨fun ⟨_, t, h, q⟩ => by cases h; exact q, fun q => ⟨by decide, "tuple", rfl, q⟩⟩
theorem isi_tup_dict (z : List D) : gcIsi [.tup z, .ty "dict"] M Q = Q (.bl false) M := propext ⟨fun ⟨_, t, h, q⟩ => by cases h; exact q, fun q => ⟨by decide, "tuple", rfl, q⟩⟩
theorem isi_lst_int (z : List D) : gcIsi [.lst z, .ty "int"] M Q = Q (.bl false) M := propext ⟨fun ⟨_, t, h, q⟩ => by cases h; exact q, fun q => ⟨by decide, "list", rfl, q⟩⟩
theorem isi_lst_bool (z : List D) : gcIsi [.lst z, .ty "bool"] M Q = Q (.bl false) M := propext ⟨fun ⟨_, t, h, q⟩ => by cases h; exact q, fun q => ⟨by decide, "list", rfl, q⟩⟩
theorem isi_lst_str (z : List D) : gcIsi [.lst z, .ty "str"] M Q = Q (.bl false) M := propext ⟨fun ⟨_, t, h, q⟩ => by cases h; exact q, fun q => ⟨by decide, "list", rfl, q⟩⟩
theorem isi_lst_tuple (z : List D) : gcIsi [.lst z, .ty "tuple"] M Q = Q (.bl false) M := propext ⟨fun ⟨_, t, h, q⟩ => by cases h; exact q, fun q => ⟨by decide, "list", rfl, q⟩⟩
theorem isi_lst_list (z : List D) : gcIsi [.lst z, .ty "list"] M Q = Q (.bl true) M := propext ⟨fun ⟨_, t, h, q⟩ => by cases h; exact q, fun q => ⟨by decide, "list", rfl, q⟩⟩
theorem isi_lst_dict (z : List D) : gcIsi [.lst z, .ty "dict"] M Q = Q (.bl false) M := propext ⟨fun ⟨_, t, h, q⟩ => by cases h; exact q, fun q => ⟨by decide, "list", rfl, q⟩⟩
theorem isi_dic_int (z : List (Key × D)) : gcIsi [.dic z, .ty "int"] M Q = Q (.bl false) M := propext ⟨fun ⟨_, t, h, q⟩ => by cases h; exact q, fun q => ⟨by decide, "dict", rfl, q⟩⟩
theorem isi_dic_bool (z : List (Key × D)) : gcIsi [.dic z, .ty "bool"] M Q = Q (.bl false) M := propext ⟨fun ⟨_, t, h, q⟩ => by cases h; exact q, fun q => ⟨by decide, "dict", rfl, q⟩⟩
theorem isi_dic_str (z : List (Key × D)) : gcIsi [.dic z, .ty "str"] M Q = Q (.bl false) M := propext ⟨fun ⟨_, t, h, q⟩ => by cases h; exact q, fun q => ⟨by decide, "dict", rfl, q⟩⟩
theorem isi_dic_tuple (z : List (Key × D)) : gcIsi [.dic z, .ty "tuple"] M Q = Q (.bl false) M := propext ⟨fun ⟨_, t, h, q⟩ => by cases h; exact q, fun q => ⟨by decide, "dict", rfl, q⟩⟩
theorem isi_dic_list (z : List (Key × D)) : gcIsi [.dic z, .ty "list"] M Q = Q (.bl false) M := propext ⟨fun ⟨_, t, h, q⟩ => by cases h; exact q, fun q => ⟨by decide, "dict", rfl, q⟩⟩
theorem isi_dic_dict (z : List (Key × D)) : gcIsi [.dic z, .ty "dict"] M Q = Q (.bl true) M := propext ⟨fun ⟨_, t, h, q⟩ => by cases h; exact q, fun q => ⟨by decide, "dict", rfl, q⟩⟩
end
end DL
set_option Elab.async false
set_option linter.all false
namespace DL
open PySem PySem.Spec PySem.W PyProof.Rows L2
section
variable {M : Mem} {Q : D → Mem → Prop} {r : DL.Fr} {b : Bool} {A B : Prop}
def blK (z : D) (A B : Prop) : Prop := match z with
  | .bl true => A
  | .bl false => B
  | _ => False
theorem blK_bl : blK (.bl b) A B = if b = true then A else B := by cases b <;> simp [blK]
theorem gAndV_k {ga gb : GE} : gAndV ga gb r M Q = ga r M fun d M1 => blK d (gb r M1 Q) (Q (.bl false) M1) := rfl
theorem gOrV_k {ga gb : GE} : gOrV ga gb r M Q = ga r M fun d M1 => blK d (Q (.bl true) M1) (gb r M1 Q) := rfl
theorem gCh_k {go go' : GO} {ga gb gc : GE} : gCh go go' ga gb gc r M Q = ga r M fun d M1 => gb r M1 fun e M2 => go d e M2 fun z M3 => blK z (gc r M3 fun f M4 => go' e f M4 Q) (Q (.bl false) M3) := rfl
theorem ite_bf : (if b = false then A else B) = if b = true then B else A := by cases b <;> simp
end
mutual
/-- data: no reference, no type within -/
def D.da : D → Bool
  | .ref _ | .ty _ => false
  | .tup xs | .lst xs => D.daL xs
  | .dic kvs => D.daK kvs
  | _ => true
def D.daL : List D → Bool
  | [] => true
  | d :: r => d.da && D.daL r
def D.daK : List (Key × D) → Bool
  | [] => true
  | (_, d) :: r => d.da && D.daK r
end
theorem D.daL_mem : ∀ {ds : List D}, D.daL ds = true → ∀ d ∈ ds, d.da = true
  | d :: r, h, e, he => by
    have h' : (d.da && D.daL r) = true := h
    rw [Bool.and_eq_true] at h'
    rcases List.mem_cons.mp he with rfl | he
    · exact h'.1
    · exact D.daL_mem h'.2 e he
theorem D.daL_of : ∀ {ds : List D}, (∀ d ∈ ds, d.da = true) → D.daL ds = true
  | [], _ => rfl
  | d :: r, h => by
    show (d.da && D.daL r) = true
    rw [h d (List.mem_cons_self ..), D.daL_of fun x hx => h x (List.mem_cons_of_mem _ hx)]
    rfl
theorem D.da_tup {xs : List D} : D.da (.tup xs) = D.daL xs := by simp only [D.da]
theorem D.da_ints (ns : List Int) : D.daL (ns.map .int) = true := D.daL_of fun d hd => by
  obtain ⟨n, _, rfl⟩ := List.mem_map.mp hd
  rfl
theorem cutS_drop {xs : List D} {i : Int} (h0 : 0 ≤ i) : DL.cutD xs (some i) none = xs.drop i.toNat := by
  unfold DL.cutD
  have e : HT.sIx xs.length 0 (some i) = min i.toNat xs.length := by
    have := HT.sIx_nat xs.length 0 i.toNat
    rw [Int.toNat_of_nonneg h0] at this
    exact this
  rw [e, HT.sIx_none]
  by_cases h : i.toNat ≤ xs.length
  · rw [Nat.min_eq_left h, List.take_of_length_le (Nat.le_of_eq (List.length_drop ..))]
  · rw [Nat.min_eq_right (by omega), Nat.sub_self, List.take_zero, List.drop_eq_nil_of_le (by omega)]
theorem sz0 : (0 < sizeLine) = True := by rw [sizeLine_eq]; decide
theorem sz1 : (1 < sizeLine) = True := by rw [sizeLine_eq]; decide
theorem sz2 : (2 < sizeLine) = True := by rw [sizeLine_eq]; decide
theorem sz3 : (3 < sizeLine) = True := by rw [sizeLine_eq]; decide
theorem sz4 : (4 < sizeLine) = True := by rw [sizeLine_eq]; decide
theorem sz5 : (5 < sizeLine) = True := by rw [sizeLine_eq]; decide
theorem sz6 : (6 < sizeLine) = True := by rw [sizeLine_eq]; decide
theorem sz7 : (7 < sizeLine) = True := by rw [sizeLine_eq]; decide
theorem sz8 : (8 < sizeLine) = True := by rw [sizeLine_eq]; decide
theorem sz9 : (9 < sizeLine) = True := by rw [sizeLine_eq]; decide
theorem se0 : (0 ≤ sizeLine) = True := by rw [sizeLine_eq]; decide
theorem se1 : (1 ≤ sizeLine) = True := by rw [sizeLine_eq]; decide
theorem se2 : (2 ≤ sizeLine) = True := by rw [sizeLine_eq]; decide
theorem se3 : (3 ≤ sizeLine) = True := by rw [sizeLine_eq]; decide
theorem se4 : (4 ≤ sizeLine) = True := by rw [sizeLine_eq]; decide
theorem se5 : (5 ≤ sizeLine) = True := by rw [sizeLine_eq]; decide
theorem se6 : (6 ≤ sizeLine) = True := by rw [sizeLine_eq]; decide
theorem se7 : (7 ≤ sizeLine) = True := by rw [sizeLine_eq]; decide
theorem se8 : (8 ≤ sizeLine) = True := by rw [sizeLine_eq]; decide
theorem se9 : (9 ≤ sizeLine) = True := by rw [sizeLine_eq]; decide
end DL
set_option Elab.async false
set_option linter.all false
namespace DL
open PySem PySem.Spec PySem.W PyProof.Rows L2
end DL
set_option Elab.async false
set_option linter.all false
set_option maxRecDepth 100000
namespace DL
open PySem PySem.Spec PySem.W PyProof.Rows L2
def putFl (f : PySem.Str) (v : Fl) : List (PySem.Str × Fl) → List (PySem.Str × Fl)
  | [] => [(f, v)]
  | (g, x) :: r => if g = f then (g, v) :: r else (g, x) :: putFl f v r
section
variable {K : PySem.W.Frag} {A : Addr → Prop} {H : Hp} {O : Own} {a : Addr}
theorem FlsOk.look {f : PySem.Str} {d : D} : ∀ {vs : List (PySem.Str × V)} {fs : List (PySem.Str × Fl)}, FlsOk K A H O a vs fs → fs.lookup f = some (.v d) → ∃ v, vs.lookup f = some v ∧ Is K A H v d
  | _, _, .nil, h => by cases h
  | _, _, @FlsOk.v _ _ _ _ _ g v' d' vs' fs' i t, h => by
    cases hb : (f == g) with
    | true =>
      simp only [List.lookup, hb] at h ⊢
      cases h
      exact ⟨_, rfl, i⟩
    | false =>
      simp only [List.lookup, hb] at h ⊢
      exact FlsOk.look t h
  | _, _, @FlsOk.o _ _ _ _ _ g l m vs' fs' oo i t, h => by
    cases hb : (f == g) with
    | true =>
      simp only [List.lookup, hb] at h
      cases h
    | false =>
      simp only [List.lookup, hb] at h ⊢
      exact FlsOk.look t h
theorem FlsOk.no {f : PySem.Str} : ∀ {vs : List (PySem.Str × V)} {fs : List (PySem.Str × Fl)}, FlsOk K A H O a vs fs → fs.lookup f = none → vs.lookup f = none
  | _, _, .nil, h => rfl
  | _, _, @FlsOk.v _ _ _ _ _ g v' d' vs' fs' i t, h => by
    cases hb : (f == g) with
    | true =>
      simp only [List.lookup, hb] at h
      cases h
    | false =>
      simp only [List.lookup, hb] at h ⊢
      exact FlsOk.no t h
  | _, _, @FlsOk.o _ _ _ _ _ g l m vs' fs' oo i t, h => by
    cases hb : (f == g) with
    | true =>
      simp only [List.lookup, hb] at h
      cases h
    | false =>
      simp only [List.lookup, hb] at h ⊢
      exact FlsOk.no t h
theorem FlsOk.put {f : PySem.Str} {v : V} {d : D} (q : Is K A H v d) : ∀ {vs : List (PySem.Str × V)} {fs : List (PySem.Str × Fl)}, FlsOk K A H O a vs fs → FlsOk K A H O a (putF f v vs) (putFl f (.v d) fs)
  | _, _, .nil => .v q .nil
  | _, _, @FlsOk.v _ _ _ _ _ g v' d' vs' fs' i t => by
    show FlsOk K A H O a (if g = f then (g, v) :: vs' else (g, v') :: putF f v vs') (if g = f then (g, .v d) :: fs' else (g, .v d') :: putFl f (.v d) fs')
    split
    · exact .v q t
    · exact .v i (FlsOk.put q t)
  | _, _, @FlsOk.o _ _ _ _ _ g l m vs' fs' oo i t => by
    show FlsOk K A H O a (if g = f then (g, v) :: vs' else (g, .ref l) :: putF f v vs') (if g = f then (g, .v d) :: fs' else (g, .o m) :: putFl f (.v d) fs')
    split
    · exact .v q t
    · exact .o oo i (FlsOk.put q t)
theorem FlsOk.len : ∀ {vs : List (PySem.Str × V)} {fs : List (PySem.Str × Fl)}, FlsOk K A H O a vs fs → vs.length = fs.length
  | _, _, .nil => rfl
  | _, _, .v _ t => congrArg (· + 1) (FlsOk.len t)
  | _, _, .o _ _ t => congrArg (· + 1) (FlsOk.len t)
end
section
variable {X : Cx} {w p w1 w2 : Bool} {o e a b : Expr} {es : List Expr} {g ga gb ge go : GE} {gs : GA} {B : Addr → Prop} {E : En} {σ : L2.St} {H H' : Hp} {r : DL.Fr} {M M' : Mem} {O O' : Own} {pos pos' apos cpos : Pos} {l : Addr} {f : PySem.Str}
/-- e.f -/
def fldK (K : PySem.W.Frag) (f : PySem.Str) (d : D) (M : Mem) (Q : D → Mem → Prop) : Prop := match d with
  | .ref a => match M a with
    | some (.ins C fs) => (Cls K C ∧ NoAttr K C f) ∧ (match fs.lookup f with
      | some (.v z) => Q z M
      | _ => False)
    | _ => False
  | _ => False
theorem fldK_ref {K : PySem.W.Frag} {a : Addr} {Q : D → Mem → Prop} : fldK K f (.ref a) M Q = match M a with
    | some (.ins C fs) => (Cls K C ∧ NoAttr K C f) ∧ (match fs.lookup f with
      | some (.v z) => Q z M
      | _ => False)
    | _ => False := rfl
def gFld (K : PySem.W.Frag) (f : PySem.Str) (ga : GE) : GE := fun r M Q => ga r M fun d M1 => fldK K f d M1 Q
theorem fldK_mono {K : PySem.W.Frag} {d : D} {Q Q' : D → Mem → Prop} (h : ∀ d M', Q d M' → Q' d M') (q : fldK K f d M Q) : fldK K f d M Q' := by
  unfold fldK at q ⊢
  split at q
  · split at q
    · refine ⟨q.1, ?_⟩
      have q2 := q.2
      split at q2
      · exact h _ _ q2
      · exact q2.elim
    · exact q.elim
  · exact q.elim
theorem de_fld (ha : DE w p X e ga) (hb : attributeBase e f X.env (eval e X.env) = eval e X.env := by rfl) : DE true p X (.Attribute e f pos) (gFld X.K f ga) := by
  refine ⟨peI (pe_fld ha.run hb) fun σ H Q ⟨B, E, r, M, O, R, q⟩ => ?_, fun r M Q Q' h q => ha.mono r M _ _ (fun d M1 q1 => fldK_mono h q1) q⟩
  refine ha.on R q fun d M1 v H1 O1 k1 R1 l1 i1 => ?_
  unfold fldK at k1
  split at k1
  · rename_i a
    have := is1_ref i1.one
    subst this
    split at k1
    · rename_i C fs em
      obtain ⟨_, _, dx, vs, e1, e2⟩ := R1.m.mem _ _ em
      obtain ⟨⟨c1, c2⟩, k2⟩ := k1
      split at k2
      · rename_i z ez
        obtain ⟨u, hu, iu⟩ := e2.look ez
        exact ⟨a, C, dx, vs, u, rfl, e1, c1, c2, hu, k2 u H1 O1 R1 l1 iu⟩
      · exact k2.elim
    · exact k1.elim
  · exact k1.elim
/-- o.f = e -/
def putFK (K : PySem.W.Frag) (f : PySem.Str) (z d : D) (M : Mem) (Q : Mem → Prop) : Prop := match d with
  | .ref a => match M a with
    | some (.ins C fs) => (Cls K C ∧ NoAttr K C f) ∧ fs.length < 1000 ∧ Q (mup M a (.ins C (putFl f (.v z) fs)))
    | _ => False
  | _ => False
theorem putFK_ref {K : PySem.W.Frag} {a : Addr} {z : D} {Q : Mem → Prop} : putFK K f z (.ref a) M Q = match M a with
    | some (.ins C fs) => (Cls K C ∧ NoAttr K C f) ∧ fs.length < 1000 ∧ Q (mup M a (.ins C (putFl f (.v z) fs)))
    | _ => False := rfl
def gPutF (K : PySem.W.Frag) (f : PySem.Str) (ga ge : GE) : GS := fun D r M => ge r M fun z M1 => ga r M1 fun d M2 => putFK K f z d M2 fun M3 => D.nx r M3
theorem putFK_mono {K : PySem.W.Frag} {z d : D} {Q Q' : Mem → Prop} (h : ∀ M', Q M' → Q' M') (q : putFK K f z d M Q) : putFK K f z d M Q' := by
  unfold putFK at q ⊢
  split at q
  · split at q
    · exact ⟨q.1, q.2.1, h _ q.2.2⟩
    · exact q.elim
  · exact q.elim
theorem step_upd {u : HO} (hl : Av B M O l) : Step (Av B M O) H (Av B M O) (upd H l u) := fun b o e nb => ⟨by rw [upd_ne fun z => nb (by rw [z]; exact hl)]; exact e, nb⟩
theorem ds_fld (ha : DE w1 p X o ga) (he : DE true p X e ge) (hs : swapsWith e (some (.Attribute o f pos')) pos.line X.env = pure false := by rfl) : DS X (.Assign [.Attribute o f pos'] e pos) (gPutF X.K f ga ge) := by
  refine ⟨psI (ps_fld ha.run he.run hs) fun D σ H ⟨B, E, r, M, O, R, q⟩ => ?_, fun D D' r M l q => he.mono _ _ _ _ (fun z M1 q1 => ha.mono _ _ _ _ (fun d M2 q2 => putFK_mono (fun _ q => l.nx _ _ q) q2) q1) q⟩
  refine he.on R q fun z M1 y H1 O1 k1 R1 l1 i1 => ?_
  refine ha.on R1 k1 fun d M2 v H2 O2 k2 R2 l2 i2 => ?_
  have i1' : Is X.K (Av B M2 O2) H2 y z := Is.step l2.avs i1
  unfold putFK at k2
  split at k2
  · rename_i a
    have := is1_ref i2.one
    subst this
    split at k2
    · rename_i C fs em
      obtain ⟨_, nO, dx, vs, e1, e2⟩ := R2.m.mem _ _ em
      obtain ⟨⟨c1, c2⟩, c3, k3⟩ := k2
      have hav : Av B M2 O2 a := .inr (.inl (by rw [em]; simp))
      refine ⟨a, C, dx, vs, rfl, e1, c1, c2, by rw [e2.len]; exact c3, ?_⟩
      refine k3 _ _ O2 (R2.mutM (m' := .ins C (putFl f (.v z) fs)) em ⟨dx, putF f y vs, upd_same, ?_⟩).1
      refine FlsOk.put (i1'.step (step_upd hav)) (e2.stepS (step_upd hav) fun l f q => ⟨q, fun o e => ?_⟩)
      rw [upd_ne (fun z => by subst z; rw [nO] at q; cases q)]
      exact e
    · exact k2.elim
  · exact k2.elim
/-- o.f = [..], list(..): a new list in memory -/
def gPutFM (K : PySem.W.Frag) (f : PySem.Str) (ga : GE) (gf : GF) : GS := fun D r M => gf r M fun m M1 => ∀ l, M1 l = none → ga r (mup M1 l (.om m)) fun d M2 => putFK K f (.ref l) d M2 fun M3 => D.nx r M3
theorem ds_fldM {gf : GF} (ha : DE w1 p X o ga) (he : DF p X e gf) (hs : swapsWith e (some (.Attribute o f pos')) pos.line X.env = pure false := by rfl) : DS X (.Assign [.Attribute o f pos'] e pos) (gPutFM X.K f ga gf) := by
  refine ⟨psI (ps_fld ha.run he.run hs) fun D σ H ⟨B, E, r, M, O, R, q⟩ => ?_, fun D D' r M l q => he.mono _ _ _ _ (fun m M1 q1 a h => ha.mono _ _ _ _ (fun d M2 q2 => putFK_mono (fun _ q => l.nx _ _ q) q2) (q1 a h)) q⟩
  refine he.on R q (Q := fun y H1 => ∃ B E r M O, Rep X B E σ H1 r M O ∧ ga r M (LE w1 p X B E σ r H1 M O fun x H2 => ∃ a C dx fs, x = .ref a ∧ H2 a = some (.ins C dx fs) ∧ Cls X.K C ∧ NoAttr X.K C f ∧ fs.length < 1000 ∧ D.nx σ (upd H2 a (.ins C dx (putF f y fs))))) fun m M1 n H1 O1 k1 N1 l1 i1 => ?_
  have R1 := N1.toMem (m := .om m) i1
  refine ha.on R1 (k1 n N1.mnone) fun d M2 v H2 O2 k2 R2 l2 i2 => ?_
  unfold putFK at k2
  split at k2
  · rename_i a
    have := is1_ref i2.one
    subst this
    split at k2
    · rename_i C fs em
      obtain ⟨_, nO, dx, vs, e1, e2⟩ := R2.m.mem _ _ em
      obtain ⟨⟨c1, c2⟩, c3, k3⟩ := k2
      have hav : Av B M2 O2 a := .inr (.inl (by rw [em]; simp))
      refine ⟨a, C, dx, vs, rfl, e1, c1, c2, by rw [e2.len]; exact c3, ?_⟩
      refine k3 _ _ O2 (R2.mutM (m' := .ins C (putFl f (.v (.ref n)) fs)) em ⟨dx, putF f (.ref n) vs, upd_same, ?_⟩).1
      refine FlsOk.put (Is.ref n) (e2.stepS (step_upd hav) fun l f q => ⟨q, fun o e => ?_⟩)
      rw [upd_ne (fun z => by subst z; rw [nO] at q; cases q)]
      exact e
    · exact k2.elim
  · exact k2.elim
/-- what stands there, seen as it is now -/
def drfK (d : D) (M : Mem) (Q : D → Mem → Prop) : Prop := match d with
  | .ref l => match M l with
    | some (.om (.lst ds)) => Q (.lst ds) M
    | some (.om (.dic ds)) => Q (.dic ds) M
    | _ => False
  | _ => False
theorem drfK_ref {Q : D → Mem → Prop} : drfK (.ref l) M Q = match M l with
    | some (.om (.lst ds)) => Q (.lst ds) M
    | some (.om (.dic ds)) => Q (.dic ds) M
    | _ => False := rfl
def gDrf (ga : GE) : GE := fun r M Q => ga r M fun d M1 => drfK d M1 Q
theorem de_drf (ha : DE w p X e ga) : DE false p X e (gDrf ga) := by
  refine ⟨peI ha.run fun σ H Q ⟨B, E, r, M, O, R, q⟩ => ?_, fun r M Q Q' h q => ha.mono r M _ _ (fun d M1 q1 => ?_) q⟩
  · refine ha.on R q fun d M1 v H1 O1 k1 R1 l1 i1 => ?_
    unfold drfK at k1
    split at k1
    · rename_i l
      have := is1_ref i1.one
      subst this
      split at k1
      · rename_i ds em
        obtain ⟨_, _, vs, e1, e2⟩ := R1.m.mem _ _ em
        exact k1 _ H1 O1 R1 l1 ⟨l, vs, rfl, e1, e2⟩
      · rename_i ds em
        obtain ⟨_, _, vs, e1, e2⟩ := R1.m.mem _ _ em
        exact k1 _ H1 O1 R1 l1 ⟨l, vs, rfl, .inl e1, e2⟩
      · exact k1.elim
    · exact k1.elim
  · unfold drfK at q1 ⊢
    split at q1
    · split at q1
      · exact h _ _ q1
      · exact h _ _ q1
      · exact q1.elim
    · exact q1.elim
def mlK (d : D) (M : Mem) (k : Addr → List D → Prop) : Prop := match d with
  | .ref l => match M l with
    | some (.om (.lst ds)) => k l ds
    | _ => False
  | _ => False
theorem mlK_ref {k : Addr → List D → Prop} : mlK (.ref l) M k = match M l with
    | some (.om (.lst ds)) => k l ds
    | _ => False := rfl
theorem mlK_mono {d : D} {k k' : Addr → List D → Prop} (h : ∀ l ds, k l ds → k' l ds) (q : mlK d M k) : mlK d M k' := by
  unfold mlK at q ⊢
  split at q
  · split at q
    · exact h _ _ q
    · exact q.elim
  · exact q.elim
/-- o.append(e) -/
def gMApp (go ge : GE) : GS := fun D r M => go r M fun d M1 => mlK d M1 fun l _ => ge r M1 fun z M2 => mlK (.ref l) M2 fun l ds => ds.length < sizeLine ∧ D.nx r (mup M2 l (.om (.lst (ds ++ [z]))))
theorem ds_mapp (ho : DE w1 p X o go) (he : DE true p X e ge)
    (hbase : attributeBase o "append" X.env (eval o X.env) = eval o X.env := by rfl)
    (hfew : ((backTo cpos (starEach [e] X.env)).all (fun x => !x.1) && (backToKw cpos (keywordEach [] X.env)).all (fun x => x.1.isSome)
      && decide ([e].length + ([] : List Keyword).length + (if ([] : List Keyword).isEmpty then 0 else 1) < 30)) = true := by rfl)
    (hline : (apos.endLine == cpos.line) = true := by rfl) (hs : starEach [e] X.env = (false, eval e X.env) :: starEach [] X.env := by rfl) (hplain : (backTo cpos (starEach [] X.env)).any (·.1) = false := by rfl)
    (hsw : swapsWith (.Call (.Attribute o "append" apos) [e] [] cpos) none pos.line X.env = pure false := by rfl) :
    DS X (.Expr (.Call (.Attribute o "append" apos) [e] [] cpos) pos) (gMApp go ge) := by
  have he' := da_one (w := true) he hs
  refine ⟨psI (ps_expr (pe_bm PySem.F.plainAttrs_list PySem.F.slot_list_append PySem.F.type_list_append mt_append ho.run he'.run hbase hfew hline hs hplain) hsw) fun D σ H ⟨B, E, r, M, O, R, q⟩ => ?_,
    fun D D' r M l q => ho.mono _ _ _ _ (fun d M1 q1 => mlK_mono (fun l _ q2 => he.mono _ _ _ _ (fun z M2 q3 => mlK_mono (fun l ds q4 => ⟨q4.1, DEnds.Le.nx ‹_› _ _ q4.2⟩) q3) q2) q1) q⟩
  refine ho.on R q fun d M1 v H1 O1 k1 R1 l1 i1 => ?_
  unfold mlK at k1
  split at k1
  · rename_i l
    have := is1_ref i1.one
    subst this
    split at k1
    · rename_i ds em
      obtain ⟨_, _, vs, e1, e2⟩ := R1.m.mem _ _ em
      refine ⟨.inl ⟨rfl, vs, SqL.of e1⟩, ?_⟩
      refine he'.on R1 (k := fun zs M2 => ∃ z, zs = [z] ∧ mlK (.ref l) M2 fun l ds => ds.length < sizeLine ∧ (LS X B E D).nx r (mup M2 l (.om (.lst (ds ++ [z]))))) (he.mono _ _ _ _ (fun z M2 q1 => ⟨z, rfl, q1⟩) k1) fun zs M2 us H2 O2 k2 R2 l2 i2 => ?_
      obtain ⟨z, rfl, k2⟩ := k2
      have i3 := isXL_strong i2
      cases i3 with
      | @cons u _ us' _ i4 t =>
        cases t
        rw [mlK_ref] at k2
        split at k2
        · rename_i ds2 em2
          obtain ⟨_, _, vs2, f1, f2⟩ := R2.m.mem _ _ em2
          have hav : Av B M2 O2 l := .inr (.inl (by rw [em2]; simp))
          refine ⟨l, vs2, u, rfl, rfl, f1, by rw [f2.length]; exact k2.1, ?_⟩
          refine k2.2 σ _ O2 (R2.mutM (m' := .om (.lst (ds2 ++ [z]))) em2 ⟨vs2 ++ [u], upd_same, ?_⟩).1
          exact (f2.append (.cons i4 .nil)).step (step_upd hav)
        · exact k2.elim
    · exact k1.elim
  · exact k1.elim
end
end DL
set_option Elab.async false
set_option linter.all false
set_option maxRecDepth 100000
namespace DL
open PySem PySem.Spec PySem.W PyProof.Rows L2
section
variable {X : Cx} {w p w1 w2 : Bool} {o e a b : Expr} {es : List Expr} {g ga gb ge go : GE} {gs : GA} {B : Addr → Prop} {E : En} {σ : L2.St} {H H' : Hp} {r : DL.Fr} {M M' : Mem} {O O' : Own} {pos pos' apos cpos : Pos} {l : Addr} {f : PySem.Str}
/-- o.pop(i) -/
def popK (z : D) (ds : List D) (k : D → List D → Prop) : Prop := match z with
  | .int i => (0 ≤ i ∧ i < ds.length ∧ i < 2 ^ 62) ∧ match ds[i.toNat]? with
    | some y => k y (ds.eraseIdx i.toNat)
    | none => False
  | _ => False
theorem popK_int {i : Int} {ds : List D} {k : D → List D → Prop} : popK (.int i) ds k = ((0 ≤ i ∧ i < ds.length ∧ i < 2 ^ 62) ∧ match ds[i.toNat]? with
    | some y => k y (ds.eraseIdx i.toNat)
    | none => False) := rfl
theorem popK_mono {z : D} {ds : List D} {k k' : D → List D → Prop} (h : ∀ y ds, k y ds → k' y ds) (q : popK z ds k) : popK z ds k' := by
  unfold popK at q ⊢
  split at q
  · refine ⟨q.1, ?_⟩
    have q2 := q.2
    split at q2
    · exact h _ _ q2
    · exact q2.elim
  · exact q.elim
def gMPop (go ge : GE) : GE := fun r M Q => go r M fun d M1 => mlK d M1 fun l _ => ge r M1 fun z M2 => mlK (.ref l) M2 fun l ds => popK z ds fun y ds' => Q y (mup M2 l (.om (.lst ds')))
theorem IsL.erase {K : PySem.W.Frag} {A : Addr → Prop} {H : Hp} : ∀ {vs : List V} {ds : List D} (i : Nat), IsL K A H vs ds → IsL K A H (vs.eraseIdx i) (ds.eraseIdx i)
  | _, _, _, .nil => .nil
  | _, _, 0, .cons _ t => t
  | _, _, i + 1, .cons h t => .cons h (IsL.erase i t)
theorem Rl.mutM {M' : Mem} (s : Step (Mut M O) H (Mut M' O) H') : Rl false M O H M' O H' := ⟨fun z => (nomatch z), s⟩
theorem de_mpop (ho : DE w1 false X o go) (he : DE true false X e ge)
    (hbase : attributeBase o "pop" X.env (eval o X.env) = eval o X.env := by rfl)
    (hfew : ((backTo cpos (starEach [e] X.env)).all (fun x => !x.1) && (backToKw cpos (keywordEach [] X.env)).all (fun x => x.1.isSome)
      && decide ([e].length + ([] : List Keyword).length + (if ([] : List Keyword).isEmpty then 0 else 1) < 30)) = true := by rfl)
    (hline : (apos.endLine == cpos.line) = true := by rfl) (hs : starEach [e] X.env = (false, eval e X.env) :: starEach [] X.env := by rfl) (hplain : (backTo cpos (starEach [] X.env)).any (·.1) = false := by rfl) :
    DE true false X (.Call (.Attribute o "pop" apos) [e] [] cpos) (gMPop go ge) := by
  have he' := da_one (w := true) he hs
  refine ⟨peI (pe_bm PySem.F.plainAttrs_list PySem.F.slot_list_pop PySem.F.type_list_pop mt_popAt ho.run he'.run hbase hfew hline hs hplain) fun σ H Q ⟨B, E, r, M, O, R, q⟩ => ?_,
    fun r M Q Q' h q => ho.mono _ _ _ _ (fun d M1 q1 => mlK_mono (fun l _ q2 => he.mono _ _ _ _ (fun z M2 q3 => mlK_mono (fun l ds q4 => popK_mono (fun y ds q5 => h _ _ q5) q4) q3) q2) q1) q⟩
  refine ho.on R q fun d M1 v H1 O1 k1 R1 l1 i1 => ?_
  unfold mlK at k1
  split at k1
  · rename_i l
    have := is1_ref i1.one
    subst this
    split at k1
    · rename_i ds em
      obtain ⟨_, _, vs, e1, e2⟩ := R1.m.mem _ _ em
      refine ⟨.inl ⟨rfl, vs, SqL.of e1⟩, ?_⟩
      refine he'.on R1 (k := fun zs M2 => ∃ z, zs = [z] ∧ mlK (.ref l) M2 fun l ds => popK z ds fun y ds' => LE true false X B E σ r H M O Q y (mup M2 l (.om (.lst ds')))) (he.mono _ _ _ _ (fun z M2 q1 => ⟨z, rfl, q1⟩) k1) fun zs M2 us H2 O2 k2 R2 l2 i2 => ?_
      obtain ⟨z, rfl, k2⟩ := k2
      have i3 := isXL_strong i2
      cases i3 with
      | @cons u _ us' _ i4 t =>
        cases t
        rw [mlK_ref] at k2
        split at k2
        · rename_i ds2 em2
          obtain ⟨_, _, vs2, f1, f2⟩ := R2.m.mem _ _ em2
          have hav : Av B M2 O2 l := .inr (.inl (by rw [em2]; simp))
          unfold popK at k2
          split at k2
          · rename_i i
            cases i4
            obtain ⟨⟨c1, c2, c3⟩, k3⟩ := k2
            split at k3
            · rename_i y ey
              obtain ⟨yv, hy, iy⟩ := f2.get ey
              refine ⟨l, vs2, i, i.toNat, yv, rfl, rfl, f1, by omega, by omega, PySem.seqIndex_of c1 (by rw [f2.length]; exact c2), hy, ?_⟩
              obtain ⟨R3, s3⟩ := R2.mutM (u := .lst (vs2.eraseIdx i.toNat)) (m' := .om (.lst (ds2.eraseIdx i.toNat))) em2 ⟨vs2.eraseIdx i.toNat, upd_same, (f2.erase _).step (step_upd hav)⟩
              refine k3 yv _ O2 R3 (((l1.loose).trans (l2.loose)).trans (Rl.mutM s3)) ?_
              have nm : M2 l ≠ none := by rw [em2]; simp
              show Is X.K (Av B (mup M2 l _) O2) _ yv y
              rw [av_mup nm]
              exact iy.step (step_upd hav)
            · exact k3.elim
          · exact k2.elim
        · exact k2.elim
    · exact k1.elim
  · exact k1.elim
/-- o.insert(i, e) -/
def insK (z : D) (ds : List D) (y : D) (k : List D → Prop) : Prop := match z with
  | .int i => (0 ≤ i ∧ i < 2 ^ 62 ∧ ds.length < sizeLine) ∧ k (ds.take i.toNat ++ [y] ++ ds.drop i.toNat)
  | _ => False
theorem insK_int {i : Int} {ds : List D} {y : D} {k : List D → Prop} : insK (.int i) ds y k = ((0 ≤ i ∧ i < 2 ^ 62 ∧ ds.length < sizeLine) ∧ k (ds.take i.toNat ++ [y] ++ ds.drop i.toNat)) := rfl
def ins2K (zs ds : List D) (k : List D → Prop) : Prop := match zs with
  | [z, y] => insK z ds y k
  | _ => False
theorem ins2K_2 {z y : D} {ds : List D} {k : List D → Prop} : ins2K [z, y] ds k = insK z ds y k := rfl
def gMIns (go : GE) (gs : GA) : GS := fun D r M => go r M fun d M1 => mlK d M1 fun l _ => gs r M1 fun zs M2 => mlK (.ref l) M2 fun l ds => ins2K zs ds fun ds' => D.nx r (mup M2 l (.om (.lst ds')))
/-- a method's promise: of the class at C -/
structure DefM (P : Program) (w : World) (K : PySem.W.Frag) (mg : PySem.Str → Option Value) (base : Heap) (n : Nat) (C : Addr) (m : PySem.Str) (ks : List AK) (fs : FS) : Prop where
  ex : ∃ f fd ps, FnG P w K mg base n f fd ps (toSp K (.v :: ks) fs) ∧ Cls K C ∧ Meth K C m f ∧ Binds K fd ps []
  mo : MonoF fs
theorem DefM.mono {P : Program} {w : World} {K : PySem.W.Frag} {mg : PySem.Str → Option Value} {base : Heap} {j n : Nat} {C : Addr} {m : PySem.Str} {ks : List AK} {fs : FS} (D : DefM P w K mg base j C m ks fs) (h : j ≤ n := by decide) : DefM P w K mg base n C m ks fs :=
  let ⟨f, fd, ps, F, q⟩ := D.ex
  ⟨⟨f, fd, ps, F.mono h, q⟩, D.mo⟩
def mthK (m : PySem.Str) (tbl : List (Addr × FS)) (d : D) (M : Mem) (k : Addr → FS → Prop) : Prop := match d with
  | .ref a => match M a with
    | some (.ins C fl) => fl.lookup m = none ∧ ∃ fs, (C, fs) ∈ tbl ∧ k a fs
    | _ => False
  | _ => False
theorem mthK_ref {m : PySem.Str} {tbl : List (Addr × FS)} {k : Addr → FS → Prop} : mthK m tbl (.ref l) M k = match M l with
    | some (.ins C fl) => fl.lookup m = none ∧ ∃ fs, (C, fs) ∈ tbl ∧ k l fs
    | _ => False := rfl
def gMeth (m : PySem.Str) (tbl : List (Addr × FS)) (go : GE) (gs : GA) : GE := fun r M Q => go r M fun d M1 => mthK m tbl d M1 fun a fs => gs r M1 fun ds M2 => fs (.ref a :: ds) M2 Q r.ex
variable {n : Nat} {m : PySem.Str} {ks : List AK} {tbl : List (Addr × FS)}
theorem gMeth_mono (hT : ∀ q ∈ tbl, DefM X.prog X.w X.K X.mg X.base n q.1 m ks q.2) (hom : ∀ r M Q Q', (∀ d M', Q d M' → Q' d M') → go r M Q → go r M Q') (ham : ∀ r M Q Q', (∀ d M', Q d M' → Q' d M') → gs r M Q → gs r M Q') :
    ∀ r M Q Q', (∀ d M', Q d M' → Q' d M') → gMeth m tbl go gs r M Q → gMeth m tbl go gs r M Q' := fun r M Q Q' h q => hom _ _ _ _ (fun d M1 q1 => by
  unfold mthK at q1 ⊢
  split at q1
  · split at q1
    · obtain ⟨h1, fs, h2, h3⟩ := q1
      exact ⟨h1, fs, h2, ham _ _ _ _ (fun ds M2 q2 => (hT _ h2).mo _ _ _ _ _ _ h (fun _ _ z => z) q2) h3⟩
    · exact q1.elim
  · exact q1.elim) q
theorem de_meth {pl : Sem Bool} (hT : ∀ q ∈ tbl, DefM X.prog X.w X.K X.mg X.base n q.1 m ks q.2) (hr : Room n X.A) (hgd : X.A.guards = some []) (ho : DE w1 false X o go) (ha : DAk false X ks (e :: es) gs) (hv : vks ks = true := by rfl)
    (hst : starEach (e :: es) X.env = (false, eval e X.env) :: starEach es X.env := by rfl) (hpl : (backTo pos (starEach es X.env)).any (·.1) = false := by rfl)
    (ht : eval (.Call (.Attribute o m apos) (e :: es) [] pos) X.env = (do
      let ov ← eval o X.env
      standAt apos.atName
      let (f, first) ← holding [ov] (getMethod ov m pl)
      callWith pos f first (backTo pos (starEach (e :: es) X.env)) (backToKw pos (keywordEach [] X.env))) := by rfl) :
    DE true false X (.Call (.Attribute o m apos) (e :: es) [] pos) (gMeth m tbl go gs) := by
  refine ⟨⟨fun pins s σ H Q I ⟨B, E, r, M, O, R, q⟩ => ?_⟩, gMeth_mono hT ho.mono ha.mono⟩
  have hq := ho.on R q (Q := fun x H1 => ∃ a C dx vs fs M1 O1, x = .ref a ∧ H1 a = some (.ins C dx vs) ∧ vs.lookup m = none ∧ DefM X.prog X.w X.K X.mg X.base n C m ks fs ∧ Rep X B E σ H1 r M1 O1 ∧ Rl false M O H M1 O1 H1 ∧
    gs r M1 fun ds M2 => fs (.ref a :: ds) M2 (LE true false X B E σ r H M O Q) r.ex) fun d M1 v H1 O1 k1 R1 l1 i1 => by
      unfold mthK at k1
      split at k1
      · rename_i l
        have := is1_ref i1.one
        subst this
        split at k1
        · rename_i C fl em
          obtain ⟨_, _, dx, vs, e1, e2⟩ := R1.m.mem _ _ em
          obtain ⟨h1, fs, h2, h3⟩ := k1
          exact ⟨l, C, dx, vs, fs, M1, O1, rfl, e1, e2.no h1, hT _ h2, R1, l1, h3⟩
        · exact k1.elim
      · exact k1.elim
  refine PySem.W.methodCall_KW (pl := pl) (thn (ho.run.run pins s σ H _ I hq) fun u s1 ⟨x, H1, I1, rx, a, C, dx, vs, fs, M1, O1, ex, ea, lk, D, R1, l1, k1⟩ => ?_) ht
  subst ex
  obtain rfl : u = Value.ref a := rx
  obtain ⟨f, fd, ps, F, c, hm, hb⟩ := D.ex
  refine getmeth_ok I1 ea c hm lk ?_
  have hq2 := ha.on R1 k1 (Q := fun vs H2 => Passes (L2.CX X.prog X.w) X (xk E.W) ∧ toSp X.K (.v :: ks) fs (.ref a :: vs) H2 Q (xk E.W)) fun ds M2 vs H2 O2 k2 R2 l2 i2 =>
    ⟨R2.ps, callM_pre (ks := .v :: ks) (vs := .ref a :: vs) (ds := .ref a :: ds) R2 (by simpa [vks] using hv) ⟨Is.ref a, i2⟩ (D.mo _ _ _ _ _ _ (fun d M' q2 => LE.go (l1.trans l2) q2) (fun C M' q2 => q2) k2) D.mo⟩
  refine PySem.W.callWith_K (first := [.ref a]) (h₀ := X.base) I.ok.mod.kin hm.kp (thn (ha.run.run pos pins s1 σ H1 _ I1 hq2) fun us s2 ⟨vs, H2, I2, r2, lk2, qq⟩ => ⟨I2.kIn, ?_⟩) hst hpl
  exact run_fg (us := .ref a :: us) (vs := .ref a :: vs) F hr hgd hb lk2 I2 (.cons rfl r2) qq
theorem de_meth0 {pl : Sem Bool} (hT : ∀ q ∈ tbl, DefM X.prog X.w X.K X.mg X.base n q.1 m [] q.2) (hr : Room n X.A) (hgd : X.A.guards = some []) (ho : DE w1 false X o go)
    (ht : eval (.Call (.Attribute o m apos) [] [] pos) X.env = (do
      let ov ← eval o X.env
      standAt apos.atName
      let (f, first) ← holding [ov] (getMethod ov m pl)
      callWith pos f first (backTo pos (starEach [] X.env)) (backToKw pos (keywordEach [] X.env))) := by rfl) :
    DE true false X (.Call (.Attribute o m apos) [] [] pos) (gMeth m tbl go gNil) := by
  refine ⟨⟨fun pins s σ H Q I ⟨B, E, r, M, O, R, q⟩ => ?_⟩, gMeth_mono hT ho.mono fun r M Q Q' h q => h _ _ q⟩
  have hq := ho.on R q (Q := fun x H1 => ∃ a C dx vs fs M1 O1, x = .ref a ∧ H1 a = some (.ins C dx vs) ∧ vs.lookup m = none ∧ DefM X.prog X.w X.K X.mg X.base n C m [] fs ∧ Rep X B E σ H1 r M1 O1 ∧ Rl false M O H M1 O1 H1 ∧
    fs [.ref a] M1 (LE true false X B E σ r H M O Q) r.ex) fun d M1 v H1 O1 k1 R1 l1 i1 => by
      unfold mthK at k1
      split at k1
      · rename_i l
        have := is1_ref i1.one
        subst this
        split at k1
        · rename_i C fl em
          obtain ⟨_, _, dx, vs, e1, e2⟩ := R1.m.mem _ _ em
          obtain ⟨h1, fs, h2, h3⟩ := k1
          exact ⟨l, C, dx, vs, fs, M1, O1, rfl, e1, e2.no h1, hT _ h2, R1, l1, h3⟩
        · exact k1.elim
      · exact k1.elim
  refine PySem.W.methodCall_KW (pl := pl) (thn (ho.run.run pins s σ H _ I hq) fun u s1 ⟨x, H1, I1, rx, a, C, dx, vs, fs, M1, O1, ex, ea, lk, D, R1, l1, k1⟩ => ?_) ht
  subst ex
  obtain rfl : u = Value.ref a := rx
  obtain ⟨f, fd, ps, F, c, hm, hb⟩ := D.ex
  refine getmeth_ok I1 ea c hm lk ?_
  exact PySem.W.callWith_K0 (first := [.ref a]) I1.kIn hm.kp (run_fg (us := [.ref a]) (vs := [.ref a]) F hr hgd hb R1.ps I1 (.cons rfl .nil)
    (callM_pre (ks := [.v]) (vs := [.ref a]) (ds := [.ref a]) R1 rfl ⟨Is.ref a, trivial⟩ (D.mo _ _ _ _ _ _ (fun d M' q2 => LE.go l1 q2) (fun C M' q2 => q2) k1) D.mo))
structure DefI (P : Program) (w : World) (K : PySem.W.Frag) (mg : PySem.Str → Option Value) (base : Heap) (n : Nat) (x : PySem.Str) (C : Addr) (ks : List AK) (Fk : Prop) (fs : FS) : Prop where
  ex : ∃ f fd ps, FnG P w K mg base n f fd ps (toSp K (.v :: ks) fs) ∧ Mk K C f ∧ Binds K fd ps []
  mo : MonoF fs
  g : mg x = some (.ref C)
  fk : Fk
theorem DefI.mono {P : Program} {w : World} {K : PySem.W.Frag} {mg : PySem.Str → Option Value} {base : Heap} {j n : Nat} {x : PySem.Str} {C : Addr} {ks : List AK} {Fk : Prop} {fs : FS} (D : DefI P w K mg base j x C ks Fk fs) (h : j ≤ n := by decide) : DefI P w K mg base n x C ks Fk fs :=
  let ⟨f, fd, ps, F, q⟩ := D.ex
  ⟨⟨f, fd, ps, F.mono h, q⟩, D.mo, D.g, D.fk⟩
/-- C(..): what is known of the class, then __init__ -/
def gMake (C : Addr) (Fk : Prop) (fs : FS) (gs : GA) : GE := fun r M Q => gs r M fun ds M1 => Fk → ∀ x, M1 x = none → fs (.ref x :: ds) (mup M1 x (.ins C [])) (fun d M2 => d = .non ∧ Q (.ref x) M2) r.ex
theorem run_mk {C f : Addr} {fd : FuncData} {ps : List PySem.Str} {sp : Sp} {Ex : XK} {pins : List (Addr × Obj)} {s : Shared} {Q : VK} {us : List Value} {vs : List V} (Mk0 : Mk X.K C f) (F : FnG X.prog X.w X.K X.mg X.base n f fd ps sp) (hr : Room (n + 1) X.A) (hgd : X.A.guards = some [])
    (hb : Binds X.K fd ps []) (hx : Passes (L2.CX X.prog X.w) X Ex) (I : Inv X pins σ H s) (rv : Vals vs us)
    (h : ∀ x dx, H x = none → H dx = none → dx ≠ x → sp (.ref x :: vs) (upd (upd H dx (.own x)) x (.ins C dx [])) (fun v H2 => v = .non ∧ Q (.ref x) H2) Ex) : wpAny (model X.prog X.w) X.A (call (.ref C) us) (EP X pins σ Q) X.xe s := by
  have hq := h (s.heap.objs.size + 1) s.heap.objs.size (I.hok.fresh (Nat.le_succ _)) (I.hok.fresh (Nat.le_refl _)) (Nat.ne_of_lt (Nat.lt_succ_self _))
  have I2 := Inv.made (C := C) I
  have r2 : Vals (V.ref (s.heap.objs.size + 1) :: vs) (Value.ref (s.heap.objs.size + 1) :: us) := .cons rfl rv
  have hl : ((Value.ref (s.heap.objs.size + 1) :: us) ++ []).length = ps.length := by
    rw [List.append_nil, ← r2.length]
    exact F.len _ _ _ _ hq
  have hbd := hb _ (Value.ref (s.heap.objs.size + 1) :: us) I2.kIn hl
  rw [List.append_nil] at hbd
  refine wpAny_call (make_map (f := f) I.kIn Mk0.makes Mk0.init (beq_iff_eq.mp Mk0.fn) (codeAny_mono (F.run _ X.stack _ _ ⟨Value.ref (s.heap.objs.size + 1) :: us, []⟩ (Value.ref (s.heap.objs.size + 1) :: us) _ _ Ex (hr.make C us []) hgd
    (I2.env0.make C us []) hbd r2 hq) fun r s' hq' => ?_))
  cases r with
  | error e => exact hx pins σ _ _ e s' I2 hq'
  | ok fl =>
    cases fl with
    | ret u =>
      obtain ⟨v, H', I3, rv, ev, q3⟩ := I2.after hq'
      subst ev
      exact ⟨rv, ⟨V.ref (s.heap.objs.size + 1), H', I3, rfl, q3⟩⟩
    | next => exact False.elim hq'
    | brk => exact False.elim hq'
    | cont => exact False.elim hq'
theorem args_step {K : PySem.W.Frag} {A A' U U' : Addr → Prop} (sA : Step A H A' H') (sU : Step U H U' H') : ∀ {ks : List AK} {vs : List V} {ds : List D}, vks ks = true → ArgsX K A U H ks vs ds → ArgsX K A' U' H' ks vs ds
  | [], [], [], _, _ => trivial
  | .v :: _, _ :: _, _ :: _, h, q => ⟨Is.step sA q.1, args_step sA sU (by simpa [vks] using h) q.2⟩
  | .s :: _, _ :: _, _ :: _, h, q => by
    obtain ⟨⟨a, ns, e1, e2, h3⟩, q2⟩ := q
    exact ⟨⟨a, ns, e1, e2, h3.step sU⟩, args_step sA sU (by simpa [vks] using h) q2⟩
  | .b :: _, _ :: _, _ :: _, h, _ => by simp [vks] at h
  | [], [], _ :: _, _, h => h.elim
  | [], _ :: _, [], _, h => h.elim
  | [], _ :: _, _ :: _, _, h => h.elim
  | _ :: _, [], [], _, h => h.elim
  | _ :: _, [], _ :: _, _, h => h.elim
  | _ :: _, _ :: _, [], _, h => h.elim
theorem make_pre {C : Addr} {fs : FS} (R : Rep X B E σ H r M O) {vs : List V} {ds : List D} (hv : vks ks = true) (ha : ArgsX X.K (Av B M O) (Mut M O) H ks vs ds) {Q : VK} (hmf : MonoF fs)
    (h : ∀ x, M x = none → fs (.ref x :: ds) (mup M x (.ins C [])) (fun d M2 => d = .non ∧ LE true false X B E σ r H M O Q (.ref x) M2) r.ex) :
    ∀ x dx, H x = none → H dx = none → dx ≠ x → toSp X.K (.v :: ks) fs (.ref x :: vs) (upd (upd H dx (.own x)) x (.ins C dx [])) (fun v H2 => v = .non ∧ Q (.ref x) H2) (xk E.W) := by
  intro x dx nx ndx ne
  have R1 := R.same (same_upd (o := .own x) ndx)
  have nx1 : upd H dx (.own x) x = none := by rw [upd_ne (fun z => ne z.symm)]; exact nx
  have N := New.of R1 (o := .ins C dx []) nx1
  have R2 := N.toMem (m := .ins C []) ⟨dx, [], upd_same, .nil⟩
  have hx := h x N.mnone
  have sm : Same H (upd (upd H dx (.own x)) x (.ins C dx [])) := fun a o e => by
    rw [upd_ne (ne_of_none e nx), upd_ne (ne_of_none e ndx)]
    exact e
  have nav := R.m.fresh nx
  have sU : Step (Mut M O) H (Mut (mup M x (.ins C [])) O) (upd (upd H dx (.own x)) x (.ins C dx [])) := fun a o e n => by
    refine ⟨sm a o e, ?_⟩
    rw [mut_mupN]
    exact fun z => z.elim n fun z => by subst z; rw [nx] at e; cases e
  have lz : Rl false M O H (mup M x (.ins C [])) O (upd (upd H dx (.own x)) x (.ins C dx [])) := Rl.mutM sU
  refine callM_pre (ks := .v :: ks) (vs := .ref x :: vs) (ds := .ref x :: ds) R2 (by simpa [vks] using hv) ⟨Is.ref x, ?_⟩ (hmf _ _ _ _ _ _ (fun d M' q2 => ?_) (fun C M' q2 => q2) hx) hmf
  · exact args_step lz.avs sU hv ha
  · intro v H3 O3 R3 l3 i3
    obtain ⟨rfl, q3⟩ := q2
    have i3 : Is X.K (Av B M' O3) H3 v .non := i3
    cases i3
    exact ⟨rfl, q3 _ H3 O3 R3 (lz.trans l3) (Is.ref x)⟩
theorem de_make {x : PySem.Str} {C : Addr} {Fk : Prop} {fs : FS} {pf : Pos} (D : DefI X.prog X.w X.K X.mg X.base n x C ks Fk fs) (hr : Room (n + 1) X.A) (hgd : X.A.guards = some []) (ha : DAk false X ks (e :: es) gs) (hv : vks ks = true := by rfl) (hg : Gl X x := by rfl)
    (hdb : (x == ("__debug__" : PySem.Str)) = false := by decide) (he : starEach (e :: es) X.env = (false, eval e X.env) :: starEach es X.env := by rfl) (hpl : (backTo pos (starEach es X.env)).any (·.1) = false := by rfl) :
    DE true false X (.Call (.Name x pf) (e :: es) [] pos) (gMake C Fk fs gs) := by
  obtain ⟨f, fd, ps, F, Mk0, hb⟩ := D.ex
  refine ⟨⟨fun pins s σ H Q I ⟨B, E, r, M, O, R, q⟩ => ?_⟩, fun r M Q Q' h q => ha.mono _ _ _ _ (fun ds M1 q1 hf x hx => D.mo _ _ _ _ _ _ (fun d M2 q2 => ⟨q2.1, h _ _ q2.2⟩) (fun _ _ z => z) (q1 hf x hx)) q⟩
  refine wpAny_Call_Name_kw (ld_glob I hg D.g ?_ hdb)
  have hq := ha.on R q (Q := fun vs H1 => Passes (L2.CX X.prog X.w) X (xk E.W) ∧ ∀ x dx, H1 x = none → H1 dx = none → dx ≠ x → toSp X.K (.v :: ks) fs (.ref x :: vs) (upd (upd H1 dx (.own x)) x (.ins C dx [])) (fun v H2 => v = .non ∧ Q (.ref x) H2) (xk E.W))
    fun ds M1 vs H1 O1 k1 R1 l1 i1 => ⟨R1.ps, make_pre R1 hv i1 D.mo fun x hx => D.mo _ _ _ _ _ _ (fun d M2 q2 => ⟨q2.1, LE.go l1 q2.2⟩) (fun _ _ z => z) (k1 D.fk x hx)⟩
  refine PySem.W.callWith_K (h₀ := X.base) I.ok.mod.kin Mk0.kp (thn (ha.run.run pos pins s σ H _ I hq) fun us s1 ⟨vs, H1, I1, r1, lk, qq⟩ => ⟨I1.kIn, ?_⟩) he hpl
  exact run_mk Mk0 F hr hgd hb lk I1 r1 qq
end
end DL
set_option Elab.async false
set_option linter.all false
set_option maxRecDepth 100000
namespace DL
open PySem PySem.Spec PySem.W PyProof.Rows L2
theorem ixT_ints {ns : List Int} {i : Int} {k : Nat → Prop} : ixT (ns.map .int) (.int i) k = (i ∈ ns ∧ k (ns.idxOf i)) := by
  unfold ixT
  rw [intsOf_map]
section
variable {X : Cx} {w p w1 w2 : Bool} {tg e a b : Expr} {g ga gb : GE} {gs : GA} {B : Addr → Prop} {E : En} {σ : L2.St} {H H' : Hp} {r : DL.Fr} {M M' : Mem} {O O' : Own} {pos pos' : Pos}
/-- lo, lo + c, .. -/
def rngC (lo c : Int) (n : Nat) : List D := (List.range n).map fun (i : Nat) => D.int (lo + (i : Int) * c)
def giR3 (gs : GA) : GI := fun r M Q => gs r M fun ds M1 => match ds with
  | [.int i, .int j, .int c] => ∃ n, RgC i j c n ∧ Q (rngC i c n) M1
  | _ => False
/-- list(range(i, j)) -/
def rg2K (x y : D) (k : List D → Prop) : Prop := match x, y with
  | .int i, .int j => RgOk i j ∧ k (rngD i (j - i).toNat)
  | _, _ => False
theorem rg2K_int {i j : Int} {k : List D → Prop} : rg2K (.int i) (.int j) k = (RgOk i j ∧ k (rngD i (j - i).toNat)) := rfl
def gFlR2 (ga gb : GE) : GF := fun r M Q => ga r M fun x M1 => gb r M1 fun y M2 => rg2K x y fun ds => Q (.lst ds) M2
def gFlR1 (ga : GE) : GF := fun r M Q => ga r M fun y M1 => rg2K (.int 0) y fun ds => Q (.lst ds) M1
end
end DL
set_option Elab.async false
set_option linter.all false
set_option maxRecDepth 100000
namespace DL
open PySem PySem.Spec PySem.W PyProof.Rows L2
section
variable {fa : List He.Fa} {fn : List He.DefD} {K : PySem.W.Frag} {mg : Str → Option Value} {P : Program} {w : World} {base : Heap} {k : Nat} {ks : List AK} {fs : FS} {N ps : List Str} {g : GS}
theorem Wor.cls (W : Wor fa fn K mg) (i : Nat) {x : Str} (h : fa[i]? = some (.cls x) := by rfl) : Cls K (He.ga K x) := He.cls_ok (W.c.fact i h)
theorem Wor.noat (W : Wor fa fn K mg) (i : Nat) {x f : Str} (h : fa[i]? = some (.noat x f) := by rfl) : NoAttr K (He.ga K x) f := He.noat_ok (W.c.fact i h)
/-- a class's method: fn's i-th entry, facts i1 (the class), i2 (the method) -/
theorem Wor.meth_ (W : Wor fa fn K mg) (i i1 i2 : Nat) {C m q : Str} {st : Stmt} (S : FnScope N ps (defScope st)) (h : fn[i]? = some ⟨(C, some m), m, q, defArgs st, defBody st, defScope st, [], []⟩ := by rfl)
    (h1 : fa[i1]? = some (.cls C) := by rfl) (h2 : fa[i2]? = some (.meth C m) := by rfl) (hk : (AK.v :: ks).length = ps.length := by rfl)
    (hbd : ∀ (kV doc pm : Value) (an : Option Addr) (cdv ct : Value) (us : List Value), us.length = ps.length → bindArgs (PySem.W.fnOf m q (defArgs st) (defBody st) (defScope st) .none kV doc pm an cdv ct) ⟨us, []⟩ = pure (ps.zip us))
    (hmo : MonoF fs)
    (hbody : ∀ (f : Addr) (cdv : Value) (A : Around) (outer : List Env) (s : Shared) (H : Hp) (E : XK), Room k (A.deeper (envOfC q (defScope st) s.heap.objs.size f cdv)) → A.guards = some [] →
      DSs (cxOf (L2.CX P w) P w K mg base N q (defScope st) f cdv A outer s H E) (defBody st) g)
    (hfs : ∀ ds M Q X, fs ds M Q X → ds.length = (AK.v :: ks).length → g { nx := fun _ M' => Q .non M', rt := Q } (entry N.length (AK.v :: ks) ds X) M) : DefM P w K mg base (k + 1) (He.ga K C) m ks fs := by
  obtain ⟨fd, F⟩ := W.c.def_ i h
  have F1 : Fun K m q st (He.ma K (He.ga K C) m) fd := He5.fun_of F
  exact ⟨⟨_, fd, ps, d_fn F1 S hk (hbody _) hfs, W.cls i1 h1, He.meth_ok (W.c.fact i2 h2), F1.binds hbd⟩, hmo⟩
/-- its making: facts i1 (the class's name), i2 (that it is made so) -/
theorem Wor.init_ (W : Wor fa fn K mg) (i i1 i2 : Nat) {C q : Str} {st : Stmt} {Fk : Prop} (S : FnScope N ps (defScope st)) (h : fn[i]? = some ⟨(C, some "__init__"), "__init__", q, defArgs st, defBody st, defScope st, [], []⟩ := by rfl)
    (h1 : fa[i1]? = some (.glo C) := by rfl) (h2 : fa[i2]? = some (.mkr C) := by rfl) (hk : (AK.v :: ks).length = ps.length := by rfl)
    (hbd : ∀ (kV doc pm : Value) (an : Option Addr) (cdv ct : Value) (us : List Value), us.length = ps.length → bindArgs (PySem.W.fnOf "__init__" q (defArgs st) (defBody st) (defScope st) .none kV doc pm an cdv ct) ⟨us, []⟩ = pure (ps.zip us))
    (hmo : MonoF fs) (hF : Fk)
    (hbody : ∀ (f : Addr) (cdv : Value) (A : Around) (outer : List Env) (s : Shared) (H : Hp) (E : XK), Room k (A.deeper (envOfC q (defScope st) s.heap.objs.size f cdv)) → A.guards = some [] →
      DSs (cxOf (L2.CX P w) P w K mg base N q (defScope st) f cdv A outer s H E) (defBody st) g)
    (hfs : ∀ ds M Q X, fs ds M Q X → ds.length = (AK.v :: ks).length → g { nx := fun _ M' => Q .non M', rt := Q } (entry N.length (AK.v :: ks) ds X) M) : DefI P w K mg base (k + 1) C (He.ga K C) ks Fk fs := by
  obtain ⟨fd, F⟩ := W.c.def_ i h
  have F1 : Fun K "__init__" q st (He.ma K (He.ga K C) "__init__") fd := He5.fun_of F
  exact ⟨⟨_, fd, ps, d_fn F1 S hk (hbody _) hfs, He.mkr_ok (W.c.fact i2 h2), F1.binds hbd⟩, hmo, W.glo i1 h1, hF⟩
theorem tbl_nil {n : Nat} {m : Str} : ∀ q ∈ ([] : List (Addr × FS)), DefM P w K mg base n q.1 m ks q.2 := fun _ h => nomatch h
theorem tbl_cons {n : Nat} {m : Str} {C : Addr} {tbl : List (Addr × FS)} (h : DefM P w K mg base n C m ks fs) (t : ∀ q ∈ tbl, DefM P w K mg base n q.1 m ks q.2) : ∀ q ∈ (C, fs) :: tbl, DefM P w K mg base n q.1 m ks q.2 := fun q hq => by
  rcases List.mem_cons.mp hq with rfl | hq
  · exact h
  · exact t q hq
end
section
variable {X : Cx} {w p w1 w2 : Bool} {tg e a b : Expr} {es : List Expr} {g ga gb : GE} {gs : GA} {B : Addr → Prop} {E : En} {σ : L2.St} {H H' : Hp} {r : DL.Fr} {M M' : Mem} {O O' : Own} {pos pos' : Pos}
/-- least of them, or d -/
def mnD (ns : List Int) (d : Int) : Int := if ns = [] then d else mn ns
def minDK (x y : D) (k : D → Prop) : Prop := match x, y with
  | .lst xs, .int d => ∃ ns, intsOf xs = some ns ∧ k (.int (mnD ns d))
  | .tup xs, .int d => ∃ ns, intsOf xs = some ns ∧ k (.int (mnD ns d))
  | _, _ => False
theorem minDK_lst {ns : List Int} {d : Int} {k : D → Prop} : minDK (.lst (ns.map .int)) (.int d) k = k (.int (mnD ns d)) := by
  show (∃ ms, intsOf (ns.map D.int) = some ms ∧ k (.int (mnD ms d))) = _
  rw [intsOf_map]
  exact propext ⟨fun ⟨ms, e, q⟩ => by cases e; exact q, fun q => ⟨ns, rfl, q⟩⟩
def gMinD (ga gb : GE) : GE := fun r M Q => ga r M fun x M1 => gb r M1 fun y M2 => minDK x y fun d => Q d M2
end
end DL
set_option Elab.async false
set_option linter.all false
set_option maxRecDepth 100000
namespace DL
open PySem PySem.Spec PySem.W PyProof.Rows L2
section
variable {X : Cx} {w p w1 w2 : Bool} {tg e a b : Expr} {es : List Expr} {g ga gb : GE} {gs : GA} {B : Addr → Prop} {E : En} {σ : L2.St} {H H' : Hp} {r : DL.Fr} {M M' : Mem} {O O' : Own} {pos pos' : Pos}
def SameSet (L ns : List Int) : Prop := L.Nodup ∧ ∀ k, k ∈ L ↔ k ∈ ns
theorem SameSet.len {L ns : List Int} (h : SameSet L ns) (hn : ns.Nodup) : L.length = ns.length := ((List.perm_ext_iff_of_nodup h.1 hn).mpr h.2).length_eq
theorem dedup_nodup : ∀ (ns acc : List Int), acc.Nodup → (ns.foldl PyProof.Rows.step_dedup acc).Nodup
  | [], acc, h => h
  | n :: ns, acc, h => by
    refine dedup_nodup ns _ ?_
    unfold PyProof.Rows.step_dedup
    split
    · exact h
    · rename_i hn
      rw [List.nodup_append]
      refine ⟨h, by simp, fun a ha b hb e => hn ?_⟩
      rw [List.mem_singleton.mp hb] at e
      subst e
      exact List.any_eq_true.mpr ⟨_, ha, by simp⟩
theorem firstMet_same (ns : List Int) : SameSet (PyProof.Rows.firstMet (fun i => ns.getD i 0) ns.length) ns := by
  have e : (List.range ns.length).map (fun i => ns.getD i 0) = ns := by
    refine List.ext_getElem (by simp) fun i h1 h2 => ?_
    rw [List.getElem_map, List.getElem_range, List.getD_eq_getElem?_getD, List.getElem?_eq_getElem h2]
    rfl
  refine ⟨dedup_nodup _ _ List.nodup_nil, fun k => ?_⟩
  have h := PyProof.Rows.firstMet_any (fun i => ns.getD i 0) ns.length k
  rw [e] at h
  constructor
  · intro hk
    have h2 : (PyProof.Rows.firstMet (fun i => ns.getD i 0) ns.length).any (· == k) = true := List.any_eq_true.mpr ⟨k, hk, by simp⟩
    rw [h] at h2
    obtain ⟨x, hx, ex⟩ := List.any_eq_true.mp h2
    rw [← eq_of_beq ex]
    exact hx
  · intro hk
    have h2 : ns.any (· == k) = true := List.any_eq_true.mpr ⟨k, hk, by simp⟩
    rw [← h] at h2
    obtain ⟨x, hx, ex⟩ := List.any_eq_true.mp h2
    rw [← eq_of_beq ex]
    exact hx
def tLenSetA (K : PySem.W.Frag) (ta : TE) : TE := fun σ H Q => ta σ H fun x H1 => ∃ (l : Addr) (ns : List Int), x = .ref l ∧ ns.length ≤ 4000 ∧
  ((SqL K H1 l (ns.map V.int) ∧ ∀ L, SameSet L ns → Q (.int (L.length : Nat)) H1) ∨ (SqT K H1 l (ns.map V.int) ∧ ∀ L, SameSet L ns → Q (.int (L.length : Nat)) H1))
theorem pe_lenSetA {ta : TE} {pf p2 q : Pos} (hg : Gl X "len") (hm : X.mg "len" = none) (hg2 : Gl X "set") (hm2 : X.mg "set" = none) (ha : PE X a ta) (hc : X.calm = true)
    (na : starEach [a] X.env = (false, eval a X.env) :: starEach [] X.env := by rfl) : PE X (.Call (.Name "len" pf) [.Call (.Name "set" p2) [a] [] q] [] pos) (tLenSetA X.K ta) := by
  refine ⟨fun pins s σ H Q I h => ?_⟩
  refine Call_ (ld_blt I hg hm boot_len ?_)
  refine PyProof.Rows.callWith_builtin1 (PyProof.Rows.args_cons ?_ rfl) rfl rfl
  refine Call_ (ld_blt I hg2 hm2 boot_set ?_)
  refine PyProof.Rows.callWith_type1 (PyProof.Rows.args_cons (thn (ha.run pins s σ H _ I h) fun v s1 ⟨x, H1, I1, r1, q1⟩ => PyProof.Rows.args_nil ?_) na) na rfl
  obtain ⟨l, ns, rfl, hl, q1⟩ := q1
  cases r1
  rcases q1 with ⟨hq, q1⟩ | ⟨hq, q1⟩
  · obtain ⟨its, r, pl, hz⟩ := I1.list hq
    have hlen : its.toArray.size = ns.length := by rw [List.size_toArray, ← r.length, List.length_map]
    refine call_set_list (I1.ok.hd hc) pl.isList (by simpa using RZ.intsAre_vals r) (by rw [hlen]; unfold scanBound; omega) fun h' tk hS hk => ?_
    refine PyProof.Rows.args_nil ?_
    rw [hlen] at hS
    have hsame := firstMet_same ns
    obtain ⟨o, es, ep, t, ho, hex, hd, _, _, _, hf, hn⟩ := hS
    have hle : (PyProof.Rows.firstMet (fun i => ns.getD i 0) ns.length).length ≤ ns.length := PyProof.Rows.firstMet_length_le _ _
    have I2 : Inv X pins σ H1 { s1 with heap := h', toks := tk } := I1.kept fun b o e => hk b o (Heap.lt_size e) e
    exact call_len_set ho hex hd hf (by rw [hn] <;> omega) ⟨.int (PyProof.Rows.firstMet (fun i => ns.getD i 0) ns.length).length, H1, I2.tok _, ⟨_, by rw [hn]⟩, q1 _ hsame⟩
  · obtain ⟨its, r, pl, hz⟩ := I1.tuple hq
    refine call_set_tupI ns (I1.ok.hd hc) (show s1.heap.IsTuple l its.toArray from pl) (by simpa using L2.intsAre_of r) (by unfold scanBound; omega) fun h' tk c hS hcn hk => ?_
    refine PyProof.Rows.args_nil ?_
    obtain ⟨o, es, ep, t, ho, hex, hd, _, hnd, hmem, hlt, hf, hn, _, _⟩ := hS
    have I2 : Inv X pins σ H1 { s1 with heap := h', toks := tk } := I1.kept hk
    have hle : (es.toList.map keyOf).length = c := by rw [List.length_map, Array.length_toList]; exact hn
    exact call_len_set ho hex hd hf (by rw [hn] <;> omega) ⟨.int (es.toList.map keyOf).length, H1, I2.tok _, ⟨_, by rw [hle, hn]⟩, q1 _ ⟨hnd, fun k => by rw [← hmem k, decide_eq_true_eq]⟩⟩
/-- how many different ones -/
def lenSetK (x : D) (k : D → Prop) : Prop := match x with
  | .lst xs => ∃ ns, intsOf xs = some ns ∧ ns.length ≤ 4000 ∧ ∀ L, SameSet L ns → k (.int (L.length : Nat))
  | .tup xs => ∃ ns, intsOf xs = some ns ∧ ns.length ≤ 4000 ∧ ∀ L, SameSet L ns → k (.int (L.length : Nat))
  | _ => False
theorem lenSetK_lst {ns : List Int} {k : D → Prop} : lenSetK (.lst (ns.map .int)) k = (ns.length ≤ 4000 ∧ ∀ L, SameSet L ns → k (.int (L.length : Nat))) := by
  show (∃ ms, intsOf (ns.map D.int) = some ms ∧ _) = _
  rw [intsOf_map]
  exact propext ⟨fun ⟨ms, e, q⟩ => by cases e; exact q, fun q => ⟨ns, rfl, q⟩⟩
theorem lenSetK_tup {ns : List Int} {k : D → Prop} : lenSetK (.tup (ns.map .int)) k = (ns.length ≤ 4000 ∧ ∀ L, SameSet L ns → k (.int (L.length : Nat))) := by
  show (∃ ms, intsOf (ns.map D.int) = some ms ∧ _) = _
  rw [intsOf_map]
  exact propext ⟨fun ⟨ms, e, q⟩ => by cases e; exact q, fun q => ⟨ns, rfl, q⟩⟩
theorem lenSetK_mono {x : D} {k k' : D → Prop} (h : ∀ d, k d → k' d) (q : lenSetK x k) : lenSetK x k' := by
  unfold lenSetK at q ⊢
  split at q
  · obtain ⟨ns, q1, q2, q3⟩ := q
    exact ⟨ns, q1, q2, fun L hL => h _ (q3 L hL)⟩
  · obtain ⟨ns, q1, q2, q3⟩ := q
    exact ⟨ns, q1, q2, fun L hL => h _ (q3 L hL)⟩
  · exact q.elim
def gLenSet (ga : GE) : GE := fun r M Q => ga r M fun x M1 => lenSetK x fun d => Q d M1
theorem de_lenSet {pf p2 q : Pos} (hc : X.calm = true) (hg : Gl X "len") (hm : X.mg "len" = none) (hg2 : Gl X "set") (hm2 : X.mg "set" = none) (ha : DE w p X a ga)
    (na : starEach [a] X.env = (false, eval a X.env) :: starEach [] X.env := by rfl) : DE true p X (.Call (.Name "len" pf) [.Call (.Name "set" p2) [a] [] q] [] pos) (gLenSet ga) := by
  refine ⟨peI (pe_lenSetA hg hm hg2 hm2 ha.run hc na) fun σ H Q ⟨B, E, r, M, O, R, q⟩ => ?_, fun r M Q Q' h q => ha.mono _ _ _ _ (fun x M1 q1 => lenSetK_mono (fun _ q3 => h _ _ q3) q1) q⟩
  refine ha.on R q fun d M1 v H1 O1 k1 R1 l1 i1 => ?_
  have i2 := i1.one
  unfold lenSetK at k1
  split at k1
  · obtain ⟨ns, en, k2, k3⟩ := k1
    obtain ⟨l, vs, rfl, h1, l3⟩ := i2
    rw [of_intsOf l3 en] at h1
    exact ⟨l, ns, rfl, k2, .inl ⟨SqL.of h1, fun L hL => fin_v R1 (.int _) (LE.go l1 (k3 L hL))⟩⟩
  · obtain ⟨ns, en, k2, k3⟩ := k1
    obtain ⟨l, vs, rfl, h1, l3⟩ := i2
    rw [of_intsOf l3 en] at h1
    exact ⟨l, ns, rfl, k2, .inr ⟨h1.sq, fun L hL => fin_v R1 (.int _) (LE.go l1 (k3 L hL))⟩⟩
  · exact k1.elim
end
end DL
set_option Elab.async false
set_option linter.all false
set_option maxRecDepth 100000
namespace DL
open PySem PySem.Spec PySem.W PyProof.Rows L2
section
variable {X : Cx} {w p w1 w2 : Bool} {tg e a b o iter elt : Expr} {es : List Expr} {g ga gb go ge : GE} {gs : GA} {B : Addr → Prop} {E : En} {σ : L2.St} {H H' : Hp} {r : DL.Fr} {M M' : Mem} {O O' : Own} {pos pos' apos cpos : Pos} {gi : GI} {gt : GG} {gtt : GT} {ifs : List Expr} {scope : Scope} {own : List (Str × Nat)} {ws : List Nat}
/-- a list or a tuple that a slot holds, lent or not -/
def giBA (i : Nat) : GI := fun r M Q => match r.sl[i]? with
  | some (.b _ ds) => Q ds M
  | some (.v (.lst ds)) => Q ds M
  | some (.v (.tup ds)) => Q ds M
  | _ => False
def giMem (go : GE) : GI := fun r M Q => go r M fun d M1 => mlK d M1 fun _ ds => Q ds M1
def ixM (ds : List D) (z : D) (k : Nat → Prop) : Prop := (D.ok (.lst ds) = true ∧ z.ok = true) ∧ match ixD ds z 0 with
  | some j => k j
  | none => False
theorem ixM_mono {ds : List D} {z : D} {k k' : Nat → Prop} (h : ∀ j, k j → k' j) (q : ixM ds z k) : ixM ds z k' := by
  refine ⟨q.1, ?_⟩
  have q2 := q.2
  split at q2
  · exact h _ q2
  · exact q2
def gMIdx (go ge : GE) : GE := fun r M Q => go r M fun d M1 => mlK d M1 fun l _ => ge r M1 fun z M2 => mlK (.ref l) M2 fun _ ds => ixM ds z fun j => Q (.int (j : Nat)) M2
theorem de_mindex {nm : Str} (hnm : nm = "index" := by rfl) (hu : X.A.units + 65 < cLine) (ho : DE w1 p X o go) (he : DE true p X e ge)
    (hbase : attributeBase o "index" X.env (eval o X.env) = eval o X.env := by rfl)
    (hfew : ((backTo cpos (starEach [e] X.env)).all (fun x => !x.1) && (backToKw cpos (keywordEach [] X.env)).all (fun x => x.1.isSome)
      && decide ([e].length + ([] : List Keyword).length + (if ([] : List Keyword).isEmpty then 0 else 1) < 30)) = true := by rfl)
    (hline : (apos.endLine == cpos.line) = true := by rfl) (hs : starEach [e] X.env = (false, eval e X.env) :: starEach [] X.env := by rfl) (hplain : (backTo cpos (starEach [] X.env)).any (·.1) = false := by rfl) :
    DE true p X (.Call (.Attribute o nm apos) [e] [] cpos) (gMIdx go ge) := by
  subst hnm
  refine ⟨peI (pe_bm PySem.F.plainAttrs_list PySem.F.slot_list_index PySem.F.type_list_index (mt_indexD hu) ho.run (da_one he hs).run hbase hfew hline hs hplain) fun σ H Q ⟨B, E, r, M, O, R, q⟩ => ?_,
    fun r M Q Q' h q => ho.mono _ _ _ _ (fun d M1 q1 => mlK_mono (fun l _ q2 => he.mono _ _ _ _ (fun z M2 q3 => mlK_mono (fun _ ds q4 => ixM_mono (fun _ q5 => h _ _ q5) q4) q3) q2) q1) q⟩
  refine ho.on R q fun d M1 v H1 O1 k1 R1 l1 i1 => ?_
  unfold mlK at k1
  split at k1
  · rename_i l
    have := is1_ref i1.one
    subst this
    split at k1
    · rename_i ds em
      obtain ⟨_, _, vs, e1, e2⟩ := R1.m.mem _ _ em
      refine ⟨.inl ⟨rfl, vs, SqL.of e1⟩, ?_⟩
      refine (da_one he hs).on R1 (k := fun zs M2 => ∃ z, zs = [z] ∧ mlK (.ref l) M2 fun _ ds => ixM ds z fun j => LE true p X B E σ r H M O Q (.int (j : Nat)) M2) (he.mono _ _ _ _ (fun z M2 q1 => ⟨z, rfl, q1⟩) k1) fun zs M2 us H2 O2 k2 R2 l2 i2 => ?_
      obtain ⟨z, rfl, k2⟩ := k2
      have i3 := isXL_strong i2
      cases i3 with
      | @cons u _ us' _ iu t =>
        cases t
        rw [mlK_ref] at k2
        split at k2
        · rename_i ds2 em2
          obtain ⟨_, _, vs2, f1, f2⟩ := R2.m.mem _ _ em2
          obtain ⟨⟨ok1, ok2⟩, k3⟩ := k2
          split at k3
          · rename_i j ej
            obtain ⟨_, ⟨y, hy, hye⟩, hno⟩ := ixD_spec ej
            have iL : Is X.K (fun b => Av B M2 O2 b ∧ b ≠ l) H2 (.ref l) (.lst ds2) := .lst ⟨fun z => z.2 rfl, f1⟩ (f2.step (step_id fun b _ n z => n z.1))
            refine ⟨l, u, z.py, D.pyL ds2, j, y.py, rfl, rfl, iL.dp (ok_and ok1).1, iu.dp (ok_and ok2).1, (ok_and ok1).2, (ok_and ok2).2, pyL_get' hy, hye, fun m z' hm hz' => ?_, fin_v R2 (.int _) fun v3 H3 O3 R3 l4 i3 => k3 v3 H3 O3 R3 ((l1.trans l2).trans l4.weak) i3⟩
            obtain ⟨y2, hy2, rfl⟩ := pyL_get hz'
            exact hno m y2 (by omega) hy2
          · exact k3.elim
        · exact k2.elim
    · exact k1.elim
  · exact k1.elim
end
end DL
set_option Elab.async false
set_option linter.all false
set_option maxRecDepth 100000
namespace DL
open PySem PySem.Spec PySem.W PyProof.Rows L2
/-- a table of the top, by name -/
structure Tb (w : World) (K : PySem.W.Frag) (mg : Str → Option Value) (x : Str) (ks : List Str) : Prop where
  g : mg x = some (.ref (He.ga K x))
  d : He.dicW K (He.ga K x) = some (He.keysIn w.params ks)
theorem Tb.kd {w : World} {K : PySem.W.Frag} {mg : Str → Option Value} {x : Str} {ks : List Str} (T : Tb w K mg x ks) : ∃ es n, KDict K w (He.ga K x) es n := He.dicW_ok T.d
theorem keys_find {P : Params} (z : Str) : ∀ {l : List DictEntry} {ks : List Str}, l.map He.keyOf = He.keysIn P ks → (l.find? (·.key.isStr z)).isSome = decide (z ∈ ks) ∧ l.any (·.refKey) = false
  | [], [], _ => ⟨rfl, rfl⟩
  | [], _ :: _, h => by cases h
  | _ :: _, [], h => by cases h
  | e :: l, k :: ks, h => by
    injection (show He.keyOf e :: l.map He.keyOf = some (k, PyData.keyHash P k) :: He.keysIn P ks from h) with h1 h2
    obtain ⟨i1, i2⟩ := keys_find z h2
    have ek : ∃ t, e.key = .str k t := by
      unfold He.keyOf at h1
      split at h1
      · rename_i x t q
        have h4 := (Prod.mk.inj (Option.some.inj h1)).1
        rw [← h4]
        exact ⟨t, q⟩
      · cases h1
    obtain ⟨t, ek⟩ := ek
    have e1 : e.key.isStr z = decide (z = k) := by
      rw [ek, PySem.W.isStr_of]
      show (k == z) = _
      by_cases q : z = k
      · subst q; simp
      · have : (k == z) = false := by simpa using fun h => q h.symm
        rw [this, decide_eq_false q]
    have e2 : e.refKey = false := by
      unfold DictEntry.refKey
      rw [ek]
    refine ⟨?_, by rw [List.any_cons, e2, i2]; rfl⟩
    rw [List.find?_cons, e1]
    by_cases q : z = k
    · subst q; simp
    · rw [decide_eq_false q]
      show (l.find? _).isSome = _
      rw [i1]
      simp [q]
theorem Tb.at_ {w : World} {K : PySem.W.Frag} {mg : Str → Option Value} {x : Str} {ks : List Str} (T : Tb w K mg x ks) (z : Str) : ∃ r, PySem.W.nsIn K (He.ga K x) z = some r ∧ r.isSome = decide (z ∈ ks) := by
  have h := T.d
  unfold He.dicW at h
  cases q : K.lookup (He.ga K x) with
  | none => rw [q] at h; cases h
  | some o =>
    obtain ⟨oc, od, dt, osl⟩ := o
    rw [q] at h
    cases oc with
    | type c =>
      cases od with
      | none =>
        cases dt with
        | dict es n =>
          have h1 : (match decide (c = "dict") && (osl.isEmpty && !(He.ga K x == sysModules)) with
            | true => some (es.toList.map He.keyOf)
            | false => none) = some (He.keysIn w.params ks) := h
          split at h1
          · obtain ⟨f1, f2⟩ := keys_find z (Option.some.inj h1)
            unfold PySem.W.nsIn
            rw [q]
            dsimp only
            cases fd : es.toList.find? (·.key.isStr z) with
            | none =>
              rw [fd] at f1
              rw [f2]
              exact ⟨none, rfl, f1⟩
            | some e =>
              rw [fd] at f1
              exact ⟨some e.val, rfl, f1⟩
          · cases h1
        | _ => cases h
      | some b => cases dt <;> cases h
    | _ => cases od <;> cases dt <;> cases h
section
variable {X : Cx} {p : Bool} {x : Str} {ks : List Str} {pos : Pos}
theorem dg_tab (T : Tb X.w X.K X.mg x ks) (hg : Gl X x := by rfl) (hd : (x == ("__debug__" : Str)) = false := by decide) : DE true p X (.Name x pos) (gC (.ref (He.ga X.K x))) :=
  de_glob (v := .ref _) hg T.g rfl (fun _ _ => .ref _) hd
def goTab (a : Addr) (ks : List Str) (neg : Bool) : GO := fun d e M Q => match d, e with
  | .str z, .ref b => b = a ∧ Q (.bl (if neg = true then !decide (z ∈ ks) else decide (z ∈ ks))) M
  | _, _ => False
theorem goTab_mono {a : Addr} {neg : Bool} : ∀ d e M Q Q', (∀ d M', Q d M' → Q' d M') → goTab a ks neg d e M Q → goTab a ks neg d e M Q' := fun d e M Q Q' h q => by
  unfold goTab at q ⊢
  split at q
  · exact ⟨q.1, h _ _ q.2⟩
  · exact q.elim
theorem od_notinTab (T : Tb X.w X.K X.mg x ks) : OpD X (compareOp .NotIn) (goTab (He.ga X.K x) ks true) := by
  obtain ⟨es, n, D⟩ := T.kd
  refine ⟨⟨_, op_notIn_kd D, fun B E σ H r M O x1 y d e Q R i1 i2 q => ?_⟩, goTab_mono⟩
  unfold goTab at q
  split at q
  · rename_i z b
    obtain ⟨rfl, q⟩ := q
    obtain ⟨r, e1, e2⟩ := T.at_ z
    refine ⟨z, r, is1_str i1, is1_ref i2, e1, ?_⟩
    rw [e2]
    exact fin_v R (.bl _) q
  · exact q.elim
end
/-- the top's facts with its tables -/
structure WorT (fa : List He.Fa) (fn : List He.DefD) (ts : List He.Tab) (w : World) (K : PySem.W.Frag) (mg : Str → Option Value) : Prop extends Wor fa fn K mg where
  t : He.SaysT fa fn ts w K
theorem WorT.tb {fa : List He.Fa} {fn : List He.DefD} {ts : List He.Tab} {w : World} {K : PySem.W.Frag} {mg : Str → Option Value} (W : WorT fa fn ts w K mg) (i j : Nat) {x : Str} {ks : List Str} (h : fa[i]? = some (.glo x) := by rfl) (h2 : ts[j]? = some ((fun K => He.ga K x), ks) := by rfl) : Tb w K mg x ks := by
  refine ⟨W.glo i h, ?_⟩
  have e : ts.map (fun t => He.dicW K (t.1 K)) = ts.map fun t => some (He.keysIn w.params t.2) := congrArg (fun z : He.AlT => z.2) W.t
  have e2 : (ts.map fun t => He.dicW K (t.1 K))[j]? = (ts.map fun t => some (He.keysIn w.params t.2))[j]? := by rw [e]
  rw [List.getElem?_map, List.getElem?_map, h2] at e2
  exact Option.some.inj e2
end DL
set_option Elab.async false
set_option linter.all false
set_option maxRecDepth 100000
namespace DL
open PySem PySem.Spec PySem.W PyProof.Rows L2
theorem DE.wk {X : Cx} {p : Bool} {e : Expr} {g : GE} (h : DE true p X e g) : DE false p X e g :=
  ⟨peI h.run fun σ H Q ⟨B, E, r, M, O, R, q⟩ => h.on R q fun d M1 v H1 O1 k1 R1 l1 i1 => k1 v H1 O1 R1 l1 i1.one, h.mono⟩
/-- the different ones -/
def uniq : List Int → List Int
  | [] => []
  | x :: xs => if x ∈ xs then uniq xs else x :: uniq xs
theorem uniq_mem (k : Int) : ∀ ns : List Int, k ∈ uniq ns ↔ k ∈ ns
  | [] => Iff.rfl
  | x :: xs => by
    unfold uniq
    split
    · rename_i h
      rw [uniq_mem k xs, List.mem_cons]
      exact ⟨.inr, fun z => z.elim (fun e => by rw [e]; exact h) fun z => z⟩
    · rw [List.mem_cons, List.mem_cons, uniq_mem k xs]
theorem uniq_nodup : ∀ ns : List Int, (uniq ns).Nodup
  | [] => List.nodup_nil
  | x :: xs => by
    unfold uniq
    split
    · exact uniq_nodup xs
    · rename_i h
      exact List.nodup_cons.mpr ⟨fun z => h ((uniq_mem x xs).mp z), uniq_nodup xs⟩
theorem uniq_len : ∀ ns : List Int, (uniq ns).length ≤ ns.length ∧ ((uniq ns).length = ns.length → ns.Nodup)
  | [] => ⟨Nat.le_refl _, fun _ => List.nodup_nil⟩
  | x :: xs => by
    obtain ⟨h1, h2⟩ := uniq_len xs
    unfold uniq
    split
    · rw [List.length_cons]
      exact ⟨by omega, fun e => by omega⟩
    · rename_i h
      rw [List.length_cons, List.length_cons]
      exact ⟨by omega, fun e => List.nodup_cons.mpr ⟨h, h2 (by omega)⟩⟩
theorem SameSet.iff {L ns : List Int} (h : SameSet L ns) : L.length = ns.length ↔ ns.Nodup := by
  have e : L.length = (uniq ns).length := ((List.perm_ext_iff_of_nodup h.1 (uniq_nodup ns)).mpr fun k => by rw [h.2, uniq_mem]).length_eq
  exact ⟨fun q => (uniq_len ns).2 (by omega), fun q => h.len q⟩
end DL
set_option Elab.async false
set_option linter.all false
set_option maxRecDepth 100000
namespace DLS
open PySem PySem.Spec PySem.W PyProof.Rows L2 SrtO
section
variable {prog : Program} {w : World} {A : Around} {E : Value → Shared → Prop} {s : Shared}
theorem collect_tup {l : Addr} {vs : List Value} {Q : List Value → Shared → Prop} (hl : s.heap.IsTuple l vs.toArray)
    (h : Q vs { s with heap := (s.heap.push (seqObj "list" #[] 0)).update s.heap.objs.size (Obj.mapSeq (· ++ vs.toArray)) }) (hsz : vs.length ≤ sizeLine) :
    wpAny (model prog w) A (collect (.ref l)) Q E s := by
  obtain ⟨o, ho, hc, n, hd⟩ := id hl
  unfold collect
  refine wpAny_bind (wpAny_runValue (codeAny_builtin entry_proto_collect' ?_))
  show wpAny _ _ (do again (.builtin "list.__iadd__" ⟨[← newList [], .ref l], []⟩)) _ _ s
  refine wpAny_bind (wpAny_newList (wpAny_pure ⟨Code.quiet_builtin _ (by decide +kernel), codeAny_builtin entry_list_iadd' ?_⟩))
  show wpAny _ _ (Builtin.List.listExtendWith (.ref s.heap.objs.size) (.ref l) (.ref s.heap.objs.size)) _ _ { s with heap := s.heap.push (seqObj "list" #[] 0) }
  unfold Builtin.List.listExtendWith
  have ho' : (s.heap.push (seqObj "list" #[] 0)).get? l = some o := Heap.get?_push_of_some _ ho
  refine wpAny_bind (wpAny_typeOf (T := "tuple") ⟨o, ho', hc⟩ ?_)
  have ht : (Value.type "tuple" == Value.type "tuple") = true := by rfl
  rw [if_pos (by rw [ht]; simp)]
  refine wpAny_bind (listItems_at ho' hd ?_)
  refine wpAny_bind (listItems_at (xs := #[]) (n := 0) (Heap.get?_push_size _ rfl) rfl ?_)
  rw [if_neg (by simp)]
  refine wpAny_bind (listUpdate_at (xs := #[]) (n := 0) (Heap.get?_push_size _ rfl) rfl ?_ (Nat.zero_le _) (by show (#[] ++ vs.toArray).size ≤ sizeLine + 1; simp only [Array.size_append, List.size_toArray, List.length_nil]; omega))
  refine wpAny_pure ?_
  show wpAny (model prog w) A (do
      let o ← load s.heap.objs.size
      match o.data with
      | .seq xs _ => pure xs.toList
      | _ => unsupported "internal:collect") Q E { s with heap := (s.heap.push (seqObj "list" #[] 0)).update s.heap.objs.size (Obj.mapSeq (· ++ vs.toArray)) }
  refine wpAny_bind (wpAny_load (get?_update_seq (Heap.get?_push_size _ rfl) _) ?_)
  show wpAny _ _ (pure ((#[] : Array Value) ++ vs.toArray).toList) Q E _
  rw [show ((#[] : Array Value) ++ vs.toArray).toList = vs by simp]
  exact wpAny_pure h
theorem sorted_tup {l : Addr} {vs : List Value} {ltv : Value → Value → Bool} {Q : Value → Shared → Prop} (O : Swo ltv) (hl : s.heap.IsTuple l vs.toArray) (hz : vs.length ≤ sizeLine)
    (hS : 2 ≤ vs.length → ∀ (h₁ : Heap) (a : Addr), h₁.get? a = some (seqObj "list" vs.toArray 0) → (∀ b o, s.heap.get? b = some o → b ≠ a ∧ h₁.get? b = some o) → SortableO prog w A.in1.in1 { s with heap := h₁ } a vs ltv)
    (h : ∀ out : List Value, Srtd ltv out → Stb ltv out vs → Q (.ref (s.heap.objs.size + 1)) { s with heap := sortedAll s.heap vs out.toArray }) :
    wpAny (model prog w) A (call (.builtin "sorted") [.ref l]) Q E s := by
  refine Calls.call_function_entry kind_sorted plain_sorted entry_sorted (args_sorted1 _) ?_
  unfold Builtin.«sorted»
  refine wpAny_bind (m := checkCount "sorted" 1 1 _) (wpAny_pure ?_)
  refine wpAny_bind (collect_tup hl ?_ hz)
  refine wpAny_bind (wpAny_newList ?_ hz)
  have hsz : ((s.heap.push (seqObj "list" #[] 0)).update s.heap.objs.size (Obj.mapSeq (· ++ vs.toArray))).objs.size = s.heap.objs.size + 1 := by
    rw [Heap.size_update, size_push']
  have hoL : (((s.heap.push (seqObj "list" #[] 0)).update s.heap.objs.size (Obj.mapSeq (· ++ vs.toArray))).push (seqObj "list" vs.toArray 0)).get? (s.heap.objs.size + 1) = some (seqObj "list" vs.toArray 0) := by
    rw [← hsz]; exact Heap.get?_push_size _ rfl
  have keep : ∀ b o, s.heap.get? b = some o → b ≠ s.heap.objs.size + 1 ∧ (((s.heap.push (seqObj "list" #[] 0)).update s.heap.objs.size (Obj.mapSeq (· ++ vs.toArray))).push (seqObj "list" vs.toArray 0)).get? b = some o := fun b o q => by
    have hlt : b < s.heap.objs.size := Heap.lt_size q
    refine ⟨Nat.ne_of_lt (Nat.lt_succ_of_lt hlt), Heap.get?_push_of_some _ ?_⟩
    rw [Heap.get?_update_ne _ _ _ _ (Nat.ne_of_lt hlt)]
    exact Heap.get?_push_of_some _ q
  show wpAny _ _ _ _ _ { s with heap := ((s.heap.push (seqObj "list" #[] 0)).update s.heap.objs.size (Obj.mapSeq (· ++ vs.toArray))).push (seqObj "list" vs.toArray 0) }
  rw [hsz]
  refine wpAny_bind (wpAny_holding (wpAny_call_entry slot_list_sort ⟨_, hoL, rfl⟩ entry_list_sort (list_sort_ord O hoL hz (fun h2 => hS h2 _ _ hoL keep) fun out hs hb => ⟨_, rfl, ?_⟩) (args_list_sort _)))
  exact wpAny_pure ⟨_, rfl, h out hs hb⟩
end
end DLS
namespace DL
open PySem PySem.Spec PySem.W PyProof.Rows L2
section
variable {X : Cx} {w p : Bool} {e : Expr} {g ga : GE} {pos : Pos}
def rSortedA (K : PySem.W.Frag) : List V → Hp → VK → Prop := fun vs H Q => ∃ (a : Addr) (ns : List Int), vs = [V.ref a] ∧ (SqL K H a (ns.map V.int) ∨ SqT K H a (ns.map V.int)) ∧
  ∀ (ns' : List Int) (p : Addr), ns'.Perm ns → ns'.Pairwise (· ≤ ·) → H p = none → Q (.ref p) (upd H p (.lst (ns'.map V.int)))
theorem cr_sortedA : CallR X (.builtin "sorted") (rSortedA X.K) := by
  intro pins s σ H vs us Q I r h
  obtain ⟨a, ns, rfl, hs | hs, q⟩ := h
  · exact cr_sortedI pins s σ H _ us Q I r ⟨a, ns, rfl, hs, q⟩
  · obtain ⟨its, rv, hl, hz⟩ := I.tuple hs
    rw [Vals.ref1 r]
    have hi := rv.ints
    refine DLS.sorted_tup SrtO.swo_int (show s.heap.IsTuple a its.toArray from hl) (by rw [← rv.length]; exact hz) (fun h2 h₁ a' _ _ => SrtO.ints_sortable hi h2) fun out h1 h2 => ?_
    obtain ⟨k1, k2, k3⟩ := SrtO.ints_out hi h1 h2
    obtain ⟨ep, he'⟩ := PyProof.Rows.sortedAll_at s.heap its out.toArray
    have hlen : ((out.map SrtO.iv).map V.int).length ≤ sizeLine := by
      rw [List.length_map, k2.length_eq]
      rw [List.length_map] at hz
      exact hz
    exact ⟨.ref _, upd H (s.heap.objs.size + 1) (.lst ((out.map SrtO.iv).map V.int)), I.laid (t' := s.toks) (fun _ _ => PyProof.Rows.sortedAll_old) (Nat.le_succ _) ⟨hlen, out, ep, vals_of_ints k1, he'⟩, rfl, q _ _ k2 k3 (I.hok.fresh (Nat.le_succ _))⟩
/-- sorted(xs) -/
def sortK (d : D) (k : List D → Prop) : Prop := match d with
  | .lst xs => ∃ ns, intsOf xs = some ns ∧ ∀ ns' : List Int, ns'.Perm ns → ns'.Pairwise (· ≤ ·) → k (ns'.map .int)
  | .tup xs => ∃ ns, intsOf xs = some ns ∧ ∀ ns' : List Int, ns'.Perm ns → ns'.Pairwise (· ≤ ·) → k (ns'.map .int)
  | _ => False
theorem sortK_lst {ns : List Int} {k : List D → Prop} : sortK (.lst (ns.map .int)) k = ∀ ns' : List Int, ns'.Perm ns → ns'.Pairwise (· ≤ ·) → k (ns'.map .int) := by
  show (∃ ms, intsOf (ns.map D.int) = some ms ∧ _) = _
  rw [intsOf_map]
  exact propext ⟨fun ⟨ms, e, q⟩ => by cases e; exact q, fun q => ⟨ns, rfl, q⟩⟩
theorem sortK_tup {ns : List Int} {k : List D → Prop} : sortK (.tup (ns.map .int)) k = ∀ ns' : List Int, ns'.Perm ns → ns'.Pairwise (· ≤ ·) → k (ns'.map .int) := by
  show (∃ ms, intsOf (ns.map D.int) = some ms ∧ _) = _
  rw [intsOf_map]
  exact propext ⟨fun ⟨ms, e, q⟩ => by cases e; exact q, fun q => ⟨ns, rfl, q⟩⟩
theorem sortK_mono {d : D} {k k' : List D → Prop} (h : ∀ ds, k ds → k' ds) (q : sortK d k) : sortK d k' := by
  unfold sortK at q ⊢
  split at q
  · obtain ⟨ns, e, q⟩ := q
    exact ⟨ns, e, fun ns' h1 h2 => h _ (q ns' h1 h2)⟩
  · obtain ⟨ns, e, q⟩ := q
    exact ⟨ns, e, fun ns' h1 h2 => h _ (q ns' h1 h2)⟩
  · exact q.elim
def gFsort (ga : GE) : GF := fun r M Q => ga r M fun d M1 => sortK d fun ds => Q (.lst ds) M1
theorem isL_ints {K : PySem.W.Frag} {A : Addr → Prop} {H : Hp} : ∀ {l : List Int}, IsL K A H (l.map V.int) (l.map D.int)
  | [] => .nil
  | k :: l => .cons (.int _) (isL_ints (l := l))
theorem df_sorted {pf : Pos} (ha : DE w p X e ga) (hg : Gl X "sorted") (hm : X.mg "sorted" = none) (hst : starEach [e] X.env = (false, eval e X.env) :: starEach [] X.env := by rfl) (hpl : (backTo pos (starEach [] X.env)).any (·.1) = false := by rfl) :
    DF p X (.Call (.Name "sorted" pf) [e] [] pos) (gFsort ga) := by
  refine ⟨peI (pe_callB cr_sortedA hg hm boot_sorted (da_one ha hst).run (by decide) (by decide) hst hpl) fun σ H Q ⟨B, E, r, M, O, R, q⟩ => ?_, fun r M Q Q' h q => ha.mono r M _ _ (fun d M1 q1 => sortK_mono (fun _ q2 => h _ _ q2) q1) q⟩
  refine (da_one ha hst).on R (k := fun zs M2 => ∃ z, zs = [z] ∧ sortK z fun ds => ∀ a H' O', New X B E σ H' r M2 O' a → Rl p M O H M2 O' H' → OOk X.K (Up (Av B M2 O') a) H' a (.lst ds) → Q (.ref a) H') (ha.mono _ _ _ _ (fun z M2 q1 => ⟨z, rfl, q1⟩) q) fun zs M1 vs H1 O1 k1 R1 l1 i1 => ?_
  obtain ⟨z, rfl, k1⟩ := k1
  have i2 := isXL_weak i1
  have fin : ∀ (ns' : List Int) (b : Addr), H1 b = none → (∀ a H' O', New X B E σ H' r M1 O' a → Rl p M O H M1 O' H' → OOk X.K (Up (Av B M1 O') a) H' a (.lst (ns'.map .int)) → Q (.ref a) H') → Q (.ref b) (upd H1 b (.lst (ns'.map V.int))) := fun ns' b n q => by
    obtain ⟨N, o⟩ := new_lst R1 (ds := ns'.map .int) isL_ints n
    exact q b _ O1 N (l1.trans (Rl.of_same (same_upd n))) o
  unfold sortK at k1
  split at k1
  · obtain ⟨ns, en, k2⟩ := k1
    obtain ⟨v, rfl, a, vs, rfl, h1, l3⟩ := isXL1 i2
    rw [of_intsOf l3 en] at h1
    exact ⟨a, ns, rfl, .inl (SqL.of h1), fun ns' b h2 h3 n => fin ns' b n (k2 ns' h2 h3)⟩
  · obtain ⟨ns, en, k2⟩ := k1
    obtain ⟨v, rfl, a, vs, rfl, h1, l3⟩ := isXL1 i2
    rw [of_intsOf l3 en] at h1
    exact ⟨a, ns, rfl, .inr h1, fun ns' b h2 h3 n => fin ns' b n (k2 ns' h2 h3)⟩
  · exact k1.elim
end
end DL
set_option Elab.async false
set_option linter.all false
set_option maxRecDepth 100000
namespace DL
open PySem PySem.Spec PySem.W PyProof.Rows L2
section
variable {X : Cx} {p : Bool}
/-- a, b, c = x, y, z -/
def gPar3 (i j l : Nat) (gs : GA) : GS := fun D r M => gs r M fun ds M1 => match ds with
  | [d, e, u] => D.nx (((r.set i (.v d)).set j (.v e)).set l (.v u)) M1
  | _ => False
end
end DL
set_option Elab.async false
set_option linter.all false
set_option maxRecDepth 100000
namespace DL
open PySem PySem.Spec PySem.W PyProof.Rows L2
mutual
/-- whether a value of the written part bears d -/
def isB (K : PySem.W.Frag) : D → Value → Bool
  | .non, u => (match u with
    | .none => true
    | _ => false)
  | .bl b, u => (match u with
    | .bool c => decide (c = b)
    | _ => false)
  | .int i, u => (match u with
    | .int j _ => decide (j = i)
    | _ => false)
  | .str x, u => (match u with
    | .str y _ => decide (y = x)
    | _ => false)
  | .ref a, u => (match u with
    | .ref b => decide (b = a)
    | _ => false)
  | .tup ds, u => (match u with
    | .ref a => (match K.lookup a with
      | some ⟨.type c, none, .seq its _, _⟩ => decide (c = "tuple") && (decide (its.size ≤ 1000) && isBL K ds its.toList)
      | _ => false)
    | _ => false)
  | _, _ => false
def isBL (K : PySem.W.Frag) : List D → List Value → Bool
  | [], us => us.isEmpty
  | d :: ds, us => (match us with
    | u :: us => isB K d u && isBL K ds us
    | [] => false)
end
mutual
theorem isB_ok {K : PySem.W.Frag} : ∀ (d : D) (u : Value), isB K d u = true → ∃ v, RelV v u ∧ ∀ A H, Is K A H v d
  | .non, u, h => by
    unfold isB at h
    split at h
    · exact ⟨.non, rfl, fun _ _ => .non⟩
    · cases h
  | .bl b, u, h => by
    unfold isB at h
    split at h
    · have e := of_decide_eq_true h
      subst e
      exact ⟨.bl _, rfl, fun _ _ => .bl _⟩
    · cases h
  | .int i, u, h => by
    unfold isB at h
    split at h
    · have e := of_decide_eq_true h
      subst e
      exact ⟨.int _, ⟨_, rfl⟩, fun _ _ => .int _⟩
    · cases h
  | .str i, u, h => by
    unfold isB at h
    split at h
    · have e := of_decide_eq_true h
      subst e
      exact ⟨.str _, ⟨_, rfl⟩, fun _ _ => .str _⟩
    · cases h
  | .ref i, u, h => by
    unfold isB at h
    split at h
    · have e := of_decide_eq_true h
      subst e
      exact ⟨.ref _, rfl, fun _ _ => .ref _⟩
    · cases h
  | .tup ds, u, h => by
    unfold isB at h
    split at h
    · rename_i a
      split at h
      · rename_i c its n sl q
        obtain ⟨h1, h2⟩ := He.ba h
        obtain ⟨h2, h3⟩ := He.ba h2
        have e := of_decide_eq_true h1
        subst e
        obtain ⟨vs, r, l⟩ := isBL_ok ds its.toList h3
        exact ⟨.ref a, rfl, fun A H => .tup (.inr ⟨_, its, n, q, rfl, rfl, rfl, Nat.le_trans (of_decide_eq_true h2) (by rw [sizeLine_eq]; decide), r⟩) (l A H)⟩
      · cases h
    · cases h
  | .ty n, u, h => by cases h
  | .lst n, u, h => by cases h
  | .dic n, u, h => by cases h
theorem isBL_ok {K : PySem.W.Frag} : ∀ (ds : List D) (us : List Value), isBL K ds us = true → ∃ vs, Vals vs us ∧ ∀ A H, IsL K A H vs ds
  | [], us, h => by
    unfold isBL at h
    rw [List.isEmpty_iff] at h
    subst h
    exact ⟨[], .nil, fun _ _ => .nil⟩
  | d :: ds, us, h => by
    unfold isBL at h
    split at h
    · rename_i u us
      obtain ⟨h1, h2⟩ := He.ba h
      obtain ⟨v, r, l⟩ := isB_ok d u h1
      obtain ⟨vs, rs, ls⟩ := isBL_ok ds us h2
      exact ⟨v :: vs, .cons r rs, fun A H => .cons (l A H) (ls A H)⟩
    · cases h
end
/-- what is asked of the top besides -/
inductive Ck where
  | con (x : Str) (d : D)
  | tab (x : Str) (kvs : PySem.W.Frag → List (Str × D))
  /-- an own exception's class, as isinstance asks it -/
  | exq (x : Str)
  /-- isinstance of an instance of the class x -/
  | isq (x : Str) (c : PySem.W.Frag → D) (b : Bool)
  /-- defs that make lambdas: their tables of code objects -/
  | cods (xs : List Str)
def clsV : D → Value
  | .ref a => .ref a
  | .ty z => .type z
  | _ => .none
def kitD (K : PySem.W.Frag) (t : Value) : D → Option Bool
  | .tup ds => PySem.W.kitAny K t (ds.map clsV)
  | c => PySem.W.kitOne K t (clsV c)
def excB (K : PySem.W.Frag) (D : Addr) : Bool :=
  decide (PySem.W.findIn K (.ref D) "__getattribute__" = some (some (.builtin "BaseException.__getattribute__"))) && (decide (PySem.W.findIn K (.ref D) "__getattr__" = some none) && (decide (PySem.W.subIn K (.ref D) (.type "BaseException") = some true) && (PySem.W.hasDictIn K D &&
    (decide (PySem.W.findIn K (.ref D) "__class__" = some (some (.builtin "object.__class__"))) && (decide (PySem.W.specialIn K (.builtin "object.__class__") "__get__" = some (some (.builtin "getset_descriptor.__get__"))) && (decide (PySem.W.takesIn K (.builtin "object.__class__") = some true) && decide (PySem.W.mroIn K D (.type "object") = some true)))))))
def tP (K : PySem.W.Frag) (x : Str) : Addr := ((PySem.W.tabIn K x).map (·.2)).getD 0
def Ck.ok (K : PySem.W.Frag) : Ck → Bool
  | .con x d => (match PySem.W.nsIn K mainGlobals x with
    | some (some u) => isB K d u
    | _ => false)
  | .tab x kvs => (kvs K).all fun q => match PySem.W.nsIn K (He.ga K x) q.1 with
    | some (some u) => isB K q.2 u
    | _ => false
  | .exq x => excB K (He.ga K x)
  | .isq x c b => decide (kitD K (.ref (He.ga K x)) (c K) = some b)
  | .cods xs => xs.all (fun x => (PySem.W.tabIn K x).isSome && (K.lookup (tP K x)).isNone) && decide (xs.map (tP K)).Nodup
structure WorC (fa : List He.Fa) (fn : List He.DefD) (ts : List He.Tab) (cs : List Ck) (w : World) (K : PySem.W.Frag) (mg : Str → Option Value) : Prop extends WorT fa fn ts w K mg where
  x : cs.all (Ck.ok K) = true
section
variable {fa : List He.Fa} {fn : List He.DefD} {ts : List He.Tab} {cs : List Ck} {w : World} {K : PySem.W.Frag} {mg : Str → Option Value}
/-- a constant of the top -/
def Con (K : PySem.W.Frag) (mg : Str → Option Value) (x : Str) (d : D) : Prop := ∃ u v, mg x = some u ∧ RelV v u ∧ ∀ A H, Is K A H v d
theorem WorC.ck (W : WorC fa fn ts cs w K mg) (i : Nat) {c : Ck} (h : cs[i]? = some c) : c.ok K = true := List.all_eq_true.mp W.x c (List.mem_of_getElem? h)
theorem WorC.con (W : WorC fa fn ts cs w K mg) (i : Nat) {x : Str} {d : D} (h : cs[i]? = some (.con x d) := by rfl) : Con K mg x d := by
  have c : (match PySem.W.nsIn K mainGlobals x with
    | some (some u) => isB K d u
    | _ => false) = true := W.ck i h
  obtain ⟨hp, X, G⟩ := W.ex
  split at c
  · rename_i u e
    obtain ⟨v, r, l⟩ := isB_ok d u c
    have e2 : mg x = some u := (PySem.W.mg_of X G e)
    exact ⟨u, v, e2, r, l⟩
  · cases c
end
end DL
set_option Elab.async false
set_option linter.all false
set_option maxRecDepth 100000
namespace DL
open PySem PySem.Spec PySem.W PyProof.Rows L2
section
variable {X : Cx} {p w : Bool} {a b : Expr} {ga gb : GE} {pos : Pos}
def goMulL : GO := fun d e M Q => match d, e with
  | .lst xs, .int k => (-1000000 ≤ k ∧ k ≤ 1000000 ∧ xs.length * k.toNat ≤ 1000000) ∧ Q (.lst (repD k xs)) M
  | _, _ => False
theorem goMulL_lst {xs : List D} {k : Int} {M : Mem} {Q : D → Mem → Prop} : goMulL (.lst xs) (.int k) M Q = ((-1000000 ≤ k ∧ k ≤ 1000000 ∧ xs.length * k.toNat ≤ 1000000) ∧ Q (.lst (repD k xs)) M) := rfl
theorem de_mulL (ha : DE true p X a ga) (hb : DE true p X b gb) : DE true p X (.BinOp a .Mult b pos) (g2 goMulL ga gb) := by
  refine ⟨peI (pe_op op_rep ha.run hb.run) fun σ H Q ⟨B, E, r, M, O, R, q⟩ => ?_, fun r M Q Q' h q => ha.mono _ _ _ _ (fun d M1 q1 => hb.mono _ _ _ _ (fun e M2 q2 => ?_) q1) q⟩
  · refine ha.on R q fun d M1 v H1 O1 k1 R1 l1 i1 => ?_
    refine hb.on R1 k1 fun e M2 u H2 O2 k2 R2 l2 i2 => ?_
    have i1' : Is X.K (Av B M2 O2) H2 v d := Is.step l2.avs i1
    have i2' : Is X.K (Av B M2 O2) H2 u e := i2
    unfold goMulL at k2
    split at k2
    · rename_i xs k
      obtain ⟨⟨c1, c2, c3⟩, k2⟩ := k2
      cases i2'
      cases i1' with
      | @lst l vs _ h l3 =>
        refine ⟨l, k, vs, rfl, rfl, h.2, by omega, by omega, by rw [l3.length]; exact size_of c3, fun q n => ?_⟩
        exact fin_lst R2 (l3.rep k.toNat) (LE.go (l1.trans l2) k2) q n
    · exact k2.elim
  · unfold goMulL at q2 ⊢
    split at q2
    · exact ⟨q2.1, h _ _ q2.2⟩
    · exact q2.elim
end
end DL
set_option Elab.async false
set_option linter.all false
set_option maxRecDepth 100000
namespace DL
open PySem PySem.Spec PySem.W PyProof.Rows L2
def gExt (i : Nat) (ge : GE) : GS := fun D r M => match r.sl[i]? with
  | some (.o (.lst ds)) => ge r M fun d M1 => match d with
    | .lst es => ds.length + es.length ≤ sizeLine ∧ D.nx (r.set i (.o (.lst (ds ++ es)))) M1
    | _ => False
  | _ => False
section
variable {X : Cx} {p wk : Bool} {e : Expr} {ge : GE} {pos : Pos}
theorem gExt_mono (hm : ∀ r M Q Q', (∀ d M', Q d M' → Q' d M') → ge r M Q → ge r M Q') (i : Nat) {D D' : DEnds} {r : Fr} {M : Mem} (l : ∀ r M, D.nx r M → D'.nx r M) (q : gExt i ge D r M) : gExt i ge D' r M := by
  unfold gExt at q ⊢
  split at q
  · refine hm _ _ _ _ (fun d M1 q1 => ?_) q
    split at q1
    · exact ⟨q1.1, l _ _ q1.2⟩
    · exact q1.elim
  · exact q.elim
theorem is1_lst {K : PySem.W.Frag} {A : Addr → Prop} {H : Hp} {v : V} {es : List D} (h : Is1 K A H v (.lst es)) : ∃ b zs, v = .ref b ∧ H b = some (.lst zs) ∧ IsL K A H zs es := h
theorem ds_ext (i : Nat) {x : Str} {px apos cpos : Pos} (he : DE wk p X e ge) (hN : X.N[i]? = some x := by rfl) (hv : Vis X.env.scope x := by first | exact Or.inl rfl | exact Or.inr (Or.inl rfl) | exact Or.inr (Or.inr rfl)) (hd : (x == ("__debug__" : Str)) = false := by decide)
    (hcd : (x == ("__classdict__" : Str)) = false := by decide)
    (hbase : attributeBase (.Name x px) "extend" X.env (eval (.Name x px) X.env) = eval (.Name x px) X.env := by rfl)
    (hfew : ((backTo cpos (starEach [e] X.env)).all (fun x => !x.1) && (backToKw cpos (keywordEach [] X.env)).all (fun x => x.1.isSome)
      && decide ([e].length + ([] : List Keyword).length + (if ([] : List Keyword).isEmpty then 0 else 1) < 30)) = true := by rfl)
    (hline : (apos.endLine == cpos.line) = true := by rfl) (hs : starEach [e] X.env = (false, eval e X.env) :: starEach [] X.env := by rfl) (hplain : (backTo cpos (starEach [] X.env)).any (·.1) = false := by rfl)
    (hsw : swapsWith (.Call (.Attribute (.Name x px) "extend" apos) [e] [] cpos) none pos.line X.env = pure false := by rfl) :
    DS X (.Expr (.Call (.Attribute (.Name x px) "extend" apos) [e] [] cpos) pos) (gExt i ge) := by
  have he' := da_one (w := wk) he hs
  refine ⟨psI (ps_expr (pe_bm PySem.F.plainAttrs_list PySem.F.slot_list_extend PySem.F.type_list_extend mt_extend (pe_var (pos := px) hN hv hd hcd) he'.run hbase hfew hline hs hplain) hsw) fun D σ H ⟨B, E, r, M, O, R, q⟩ => ?_, fun D D' r M l q => gExt_mono he.mono i l.nx q⟩
  unfold gExt at q
  split at q
  · rename_i ds er
    obtain ⟨x, e1, a, e2, ha, vs, e3, l3⟩ := R.slot er
    subst e2
    refine ⟨.ref a, e1, .inl ⟨rfl, vs, SqL.of e3⟩, ?_⟩
    refine he'.on R (k := fun zs M1 => ∃ d, zs = [d] ∧ match d with
      | .lst es => ds.length + es.length ≤ sizeLine ∧ (LS X B E D).nx (r.set i (.o (.lst (ds ++ es)))) M1
      | _ => False) (he.mono _ _ _ _ (fun d M1 q1 => ⟨d, rfl, q1⟩) q) fun zs M1 us H1 O1 k1 R1 l1 i1 => ?_
    obtain ⟨d, rfl, k1⟩ := k1
    split at k1
    · rename_i es
      obtain ⟨hz, k1⟩ := k1
      cases us with
      | nil => exact i1.elim
      | cons v us' =>
        obtain ⟨i2, i3⟩ := i1
        cases us' with
        | cons _ _ => exact i3.elim
        | nil =>
          obtain ⟨b, zs, rfl, hb, lb⟩ := is1_lst i2.one
          obtain ⟨x', f1, a', f2, ha', vs', f3, l3'⟩ := R1.slot er
          rw [e1] at f1
          cases f1
          have f2 : some (V.ref a) = some (V.ref a') := f2
          cases f2
          refine ⟨a, b, vs', zs, rfl, rfl, f3, hb, by rw [l3'.length, lb.length]; exact hz, ?_⟩
          have s : Step (Av B M1 O1) H1 (Av B M1 O1) (upd H1 a (.lst (vs' ++ zs))) := fun b o eb nb => ⟨by
            rw [upd_ne (fun z => nb (by rw [z]; exact .inr (.inr (by rw [ha']; simp))))]; exact eb, nb⟩
          exact k1 σ _ O1 (R1.mutO er e1 ha' ⟨vs' ++ zs, upd_same, (l3'.append lb).step s⟩)
    · exact k1.elim
  · exact q.elim
end
def loopDM (gt : GG) (gb : GS) (l : Addr) (all : List D) : List D → DEnds → Fr → Mem → Prop
  | [], D, r, M => M l = some (.om (.lst all)) ∧ D.nx r M
  | d :: ds, D, r, M => M l = some (.om (.lst all)) ∧ gt d r M fun r' M' => gb { D with nx := loopDM gt gb l all ds D, ct := loopDM gt gb l all ds D, bk := D.nx } r' M'
theorem loopDM_mono {gt : GG} {gb : GS} (ht : ∀ d r M Q Q', (∀ r' M', Q r' M' → Q' r' M') → gt d r M Q → gt d r M Q') (hb : MonoS gb) (l : Addr) (all : List D) : ∀ ds, MonoS (loopDM gt gb l all ds)
  | [] => fun D D' r M h q => ⟨q.1, h.nx _ _ q.2⟩
  | d :: ds => fun D D' r M h q => by
    have ih := loopDM_mono ht hb l all ds
    exact ⟨q.1, ht d r M _ _ (fun r' M' q1 => hb { D with nx := loopDM gt gb l all ds D, ct := loopDM gt gb l all ds D, bk := D.nx } _ r' M' ⟨fun r2 M2 q2 => ih D D' r2 M2 h q2, h.rt, fun r2 M2 q2 => h.nx _ _ q2, fun r2 M2 q2 => ih D D' r2 M2 h q2⟩ q1) q.2⟩
def gForM (go : GE) (gt : GG) (gb : GS) : GS := fun D r M => go r M fun d M1 => mlK d M1 fun l ds => loopDM gt gb l ds ds D r M1
section
variable {X : Cx} {p w : Bool} {tg o : Expr} {go : GE} {gt : GG} {pos : Pos}
theorem ds_forM {body : List Stmt} {gb : GS} {ws : List Nat} (hp : PassesOwn (model X.prog X.w) X.A X.env X.xe) (hc : X.calm = true) (ho : DE w p X o go) (hg : DT' X tg ws gt) (hb : DSs X body gb)
    (hs : ∀ x, foldedSetIterable o X.env x = pure x := by intro _; rfl) : DS X (.For tg o body [] pos) (gForM go gt gb) := by
  refine ⟨psI (ps_for hp hc (pi_seq ho.run) hg.p.run hb.run hs) fun D σ H ⟨B, E, r, M, O, R, q⟩ => ?_, fun D D' r M l q => ho.mono _ _ _ _ (fun d M1 q1 => mlK_mono (fun l2 ds q2 => loopDM_mono hg.p.mono hb.mono l2 ds ds D D' r M1 l q2) q1) q⟩
  refine ho.on R q fun d M1 v H1 O1 k1 R1 l1 i1 => ?_
  unfold mlK at k1
  split at k1
  case h_2 => exact k1.elim
  rename_i l
  have := is1_ref i1.one
  subst this
  split at k1
  case h_2 => exact k1.elim
  rename_i ds em
  obtain ⟨_, _, vs, e1, e2⟩ := R1.m.mem _ _ em
  refine ⟨l, vs, rfl, .inl ⟨SqL.of e1, ?_⟩⟩
  refine ⟨fun i m σ' H' => i + m = ds.length ∧ ∃ r' M' O', Rep X B (E.now H1 M1 O1) σ' H' r' M' O' ∧ loopDM gt gb l ds (ds.drop i) (LS X B E D) r' M',
    ⟨ds.length, by omega, r, M1, O1, R1.now, by rw [List.drop_zero]; exact k1⟩, fun i m σ' H' ⟨him, r', M', O', R', q'⟩ => ?_⟩
  have ml : M' l = some (.om (.lst ds)) := by
    generalize ds.drop i = rest at q'
    cases rest with
    | nil => exact q'.1
    | cons _ _ => exact q'.1
  obtain ⟨_, _, vs', f1, f2⟩ := R'.m.mem _ _ ml
  by_cases hlt : i < ds.length
  · right
    obtain ⟨d, hd⟩ : ∃ d, ds[i]? = some d := ⟨_, List.getElem?_eq_getElem hlt⟩
    obtain ⟨v, hv, iv⟩ := f2.get hd
    have hdrop : ds.drop i = d :: ds.drop (i + 1) := by
      rw [List.drop_eq_getElem_cons hlt]
      rw [List.getElem?_eq_getElem hlt] at hd
      cases hd
      rfl
    rw [hdrop] at q'
    refine ⟨⟨vs', v, SqL.of f1, hv⟩, fun σ2 H2 => ∃ r2 M2 O2, Rep X B (E.now H1 M1 O1) σ2 H2 r2 M2 O2 ∧ loopDM gt gb l ds (ds.drop (i + 1)) (LS X B E D) r2 M2, fun σ2 H2 h2 => ⟨m - 1, by omega, by omega, h2⟩, fun x H2 ⟨g1, g2⟩ => ?_⟩
    subst g1
    have e3 := g2 vs' (SqL.of f1)
    rw [hv] at e3
    cases e3
    refine ⟨B, E.now H1 M1 O1, r', M', O', d, R', iv, ?_⟩
    refine hg.p.mono _ _ _ _ _ (fun r3 M3 q3 => ?_) (hg.s _ _ _ _ q'.2)
    obtain ⟨⟨e3, _⟩, q3⟩ := q3
    subst e3
    refine ⟨rfl, fun σ3 _ R3 => ⟨B, E.now H1 M1 O1, r3, M3, O', R3, ?_⟩⟩
    refine hb.mono { LS X B E D with nx := loopDM gt gb l ds (ds.drop (i + 1)) (LS X B E D), ct := loopDM gt gb l ds (ds.drop (i + 1)) (LS X B E D), bk := (LS X B E D).nx } _ _ _ ⟨fun r4 M4 q4 σ4 H4 O4 R4 => ⟨r4, M4, O4, R4, q4⟩, fun d4 M4 q4 v4 H4 O4 h4 s4 i4 => q4 v4 H4 O4 h4 (R1.ent.trans s4) i4, fun r4 M4 q4 σ4 H4 O4 R4 => q4 σ4 H4 O4 (R1.then R4), fun r4 M4 q4 σ4 H4 O4 R4 => ⟨r4, M4, O4, R4, q4⟩⟩ q3
  · left
    have hn : ds.drop i = [] := List.drop_eq_nil_of_le (by omega)
    rw [hn] at q'
    exact ⟨⟨vs', SqL.of f1, by rw [f2.length]; omega⟩, q'.2 σ' H' O' (R1.then R')⟩
end
end DL
set_option Elab.async false
set_option linter.all false
set_option maxRecDepth 100000
namespace DL
open PySem PySem.Spec PySem.W PyProof.Rows L2
def lcDM (l : Addr) (all : List D) (gt : GG) (gtt : GT) (ge : GE) (r : DL.Fr) : List D → List D → Mem → (List D → Mem → Prop) → Prop
  | [], acc, M, Q => M l = some (.om (.lst all)) ∧ Q acc M
  | d :: ds, acc, M, Q => M l = some (.om (.lst all)) ∧ gt d r M fun r1 M1 => gtt r1 M1 fun b M2 => if b = true then ge r1 M2 fun x M3 => acc.length < sizeLine ∧ lcDM l all gt gtt ge r ds (acc ++ [x]) M3 Q else lcDM l all gt gtt ge r ds acc M2 Q
theorem lcDM_mono {l : Addr} {all : List D} {gt : GG} {gtt : GT} {ge : GE} {r : DL.Fr} (ht : ∀ d r M Q Q', (∀ r' M', Q r' M' → Q' r' M') → gt d r M Q → gt d r M Q') (htt : ∀ r M Q Q', (∀ d M', Q d M' → Q' d M') → gtt r M Q → gtt r M Q') (he : ∀ r M Q Q', (∀ d M', Q d M' → Q' d M') → ge r M Q → ge r M Q') :
    ∀ ds acc M Q Q', (∀ a M', Q a M' → Q' a M') → lcDM l all gt gtt ge r ds acc M Q → lcDM l all gt gtt ge r ds acc M Q'
  | [], acc, M, Q, Q', h, q => ⟨q.1, h _ _ q.2⟩
  | d :: ds, acc, M, Q, Q', h, q => ⟨q.1, ht _ _ _ _ _ (fun r1 M1 q1 => htt _ _ _ _ (fun b M2 q2 => by
    cases b with
    | true => exact he _ _ _ _ (fun x M3 q3 => ⟨q3.1, lcDM_mono ht htt he ds _ _ _ _ h q3.2⟩) q2
    | false => exact lcDM_mono ht htt he ds _ _ _ _ h q2) q1) q.2⟩
def gLcM (go : GE) (gt : GG) (gtt : GT) (ge : GE) (vs : List Nat) : GF := fun r M Q => noOwn r vs = true ∧ go r M fun d M1 => mlK d M1 fun l ds => lcDM l ds gt gtt ge (wipeF r vs) ds [] M1 fun acc M2 => Q (.lst acc) M2
section
variable {X : Cx} {w p : Bool} {tg o elt : Expr} {go ge : GE} {gt : GG} {gtt : GT} {ifs : List Expr} {scope : Scope} {own : List (Str × Nat)} {ws : List Nat} {pos : Pos}
theorem di_memX (ho : DE w p X o go) : ∃ wi, PI X tg o wi ∧ ∀ B E σ H r M O (k : Addr → List D → Mem → Prop) R', Rep X B E σ H r M O → (go r M fun d M1 => mlK d M1 fun l ds => k l ds M1) → (∀ l ds M1 H1 O1, k l ds M1 → Rep X B E σ H1 r M1 O1 → Rl p M O H M1 O1 H1 → M1 l = some (.om (.lst ds)) → R' (Itl X.K l) H1) → wi σ H R' :=
  ⟨_, pi_seq ho.run, fun B E σ H r M O k R' R q hR => by
    refine ho.on R q fun d M1 v H1 O1 k1 R1 l1 i1 => ?_
    unfold mlK at k1
    split at k1
    · rename_i l
      have := is1_ref i1.one
      subst this
      split at k1
      · rename_i ds em
        obtain ⟨_, _, vs, e1, e2⟩ := R1.m.mem _ _ em
        exact ⟨l, vs, rfl, .inl ⟨SqL.of e1, hR l ds M1 H1 O1 k1 R1 l1 em⟩⟩
      · exact k1.elim
    · exact k1.elim⟩
theorem lcM_imp {ws vs : List Nat} {wi : TI} (hwi : ∀ B E σ H r M O (k : Addr → List D → Mem → Prop) R', Rep X B E σ H r M O → (go r M fun d M1 => mlK d M1 fun l ds => k l ds M1) → (∀ l ds M1 H1 O1, k l ds M1 → Rep X B E σ H1 r M1 O1 → Rl p M O H M1 O1 H1 → M1 l = some (.om (.lst ds)) → R' (Itl X.K l) H1) → wi σ H R')
    (hgm : ∀ d r M Q Q', (∀ r' M', Q r' M' → Q' r' M') → gt d r M Q → gt d r M Q') (htm : ∀ r M Q Q', (∀ d M', Q d M' → Q' d M') → gtt r M Q → gtt r M Q') (hem : ∀ r M Q Q', (∀ d M', Q d M' → Q' d M') → ge r M Q → ge r M Q') (hgs : SameM ws gt)
    (hws : ∀ j ∈ ws, j ∈ vs) (σ : L2.St) (H : Hp) (Q : VK) (hh : ∃ B E r M O, Rep X B E σ H r M O ∧ gLcM go gt gtt ge vs r M (fun m M' => ∀ a H' O', New X B E σ H' r M' O' a → Rl p M O H M' O' H' → OOk X.K (Up (Av B M' O') a) H' a m → Q (.ref a) H')) :
    tLc wi (uG X.K ws gt) (uT p X.K gtt) (uE p X.K ge) vs σ H Q := by
  obtain ⟨B, E, r, M, O, R, hno, q⟩ := hh
  refine hwi B E σ H r M O (fun l ds M1 => lcDM l ds gt gtt ge (wipeF r vs) ds [] M1 _) _ R q fun l ds M1 H1 O1 k1 R1 l1 ml1 => ?_
  intro a n
  refine ⟨fun i m H2 => i + m = ds.length ∧ ∃ M2 O2 acc vs', New X B E σ H2 r M2 O2 a ∧ H2 a = some (.lst vs') ∧ IsL X.K (Up (Av B M2 O2) a) H2 vs' acc ∧ Rl p M1 O1 H1 M2 O2 H2 ∧ lcDM l ds gt gtt ge (wipeF r vs) (ds.drop i) acc M2 (fun acc' M' =>
      ∀ a' H' O', New X B E σ H' r M' O' a' → Rl p M O H M' O' H' → OOk X.K (Up (Av B M' O') a') H' a' (.lst acc') → Q (.ref a') H'),
    ⟨ds.length, by omega, M1, O1, [], [], New.of R1 n, upd_same, .nil, Rl.of_same (same_upd n), by rw [List.drop_zero]; exact k1⟩, fun i m H2 ⟨him, M2, O2, acc, vs', N2, e2, i2, l2, q2⟩ => ?_⟩
  have ml : M2 l = some (.om (.lst ds)) := by
    generalize ds.drop i = rest at q2
    cases rest with
    | nil => exact q2.1
    | cons _ _ => exact q2.1
  obtain ⟨_, _, vsl, f1, f2⟩ := N2.m.mem _ _ ml
  rw [av_up] at f2
  by_cases hlt : i < ds.length
  · right
    obtain ⟨d, hd⟩ : ∃ d, ds[i]? = some d := ⟨_, List.getElem?_eq_getElem hlt⟩
    obtain ⟨vd, hvd, ivd⟩ := f2.get hd
    have hdrop : ds.drop i = d :: ds.drop (i + 1) := by
      rw [List.drop_eq_getElem_cons hlt]
      rw [List.getElem?_eq_getElem hlt] at hd
      cases hd
      rfl
    rw [hdrop] at q2
    have ha2 : H2 a ≠ none := by rw [e2]; exact fun z => nomatch z
    refine ⟨⟨vsl, vd, SqL.of f1, hvd⟩, fun H3 => ∃ M2 O2 acc vs', New X B E σ H3 r M2 O2 a ∧ H3 a = some (.lst vs') ∧ IsL X.K (Up (Av B M2 O2) a) H3 vs' acc ∧ Rl p M1 O1 H1 M2 O2 H3 ∧ lcDM l ds gt gtt ge (wipeF r vs) (ds.drop (i + 1)) acc M2 (fun acc' M' =>
      ∀ a' H' O', New X B E σ H' r M' O' a' → Rl p M O H M' O' H' → OOk X.K (Up (Av B M' O') a') H' a' (.lst acc') → Q (.ref a') H'), fun H3 h3 => ⟨m - 1, by omega, by omega, h3⟩, fun x H3 ⟨g1, g2⟩ => ?_⟩
    subst g1
    have e7 := g2 vsl (SqL.of f1)
    rw [hvd] at e7
    cases e7
    have sm : Same H3 H3 := Same.refl _
    have ix := ivd
    -- the state at the turn's begin
    have N3 : New X B E σ H3 r M2 O2 a := N2.same sm
    have R3 : RepK X.K (Bp B a) (En.blk H3 M2 O2) (wipe σ vs) H3 (wipeF r vs) M2 O2 := (New.blk (X' := X) rfl N3 vs).k ⟨rfl, rfl⟩
    have e3 : H3 a = some (.lst vs') := sm _ _ e2
    have ha3 : H3 a ≠ none := by rw [e3]; exact fun z => nomatch z
    have i3 : IsL X.K (Up (Av B M2 O2) a) H3 vs' acc := i2.step (step_same sm fun _ z => z)
    have l3 : Rl p M1 O1 H1 M2 O2 H3 := l2.trans (Rl.of_same sm)
    have na : ¬ Mut M2 O2 a := fun z => N3.nav (.inr z)
    refine ⟨Bp B a, En.blk H3 M2 O2, wipeF r vs, M2, O2, d, R3, by rw [av_up]; exact ix, ?_⟩
    refine hgm _ _ _ _ _ (fun r4 M4 q4 => ?_) (hgs _ _ _ _ q2.2)
    obtain ⟨⟨e4, f4⟩, q4⟩ := q4
    subst e4
    refine ⟨⟨rfl, f4⟩, fun σ4 o4 R4 => ⟨wipe_same o4 hws, Bp B a, En.blk H3 M4 O2, r4, M4, O2, R4, ?_⟩⟩
    refine htm _ _ _ _ (fun b M5 q5 H5 O5 R5 l5 => ?_) q4
    have N5 : New X B E σ H5 r M5 O5 a := N3.turn (X' := X) rfl hws hno o4 f4 l5 R5.rep ha3
    have e5 : H5 a = some (.lst vs') := (l5.2 a _ e3 na).1
    have i5 : IsL X.K (Up (Av B M5 O5) a) H5 vs' acc := i3.step (step_up l5.avs)
    cases b with
    | false =>
      rw [if_neg Bool.false_ne_true] at q5
      refine iteF ?_
      exact ⟨M5, O5, acc, vs', N5, e5, i5, l3.trans l5, q5⟩
    | true =>
      rw [if_pos rfl] at q5
      refine iteT ?_
      refine ⟨Bp B a, En.blk H3 M4 O2, r4, M5, O5, R5, ?_⟩
      refine hem _ _ _ _ (fun y M6 q6 v6 H6 O6 R6 l6 i6 => ?_) q5
      have l56 := l5.trans l6
      have N6 : New X B E σ H6 r M6 O6 a := N3.turn (X' := X) rfl hws hno o4 f4 l56 R6.rep ha3
      have e6 : H6 a = some (.lst vs') := (l56.2 a _ e3 na).1
      have i6' : IsL X.K (Up (Av B M6 O6) a) H6 vs' acc := i3.step (step_up l56.avs)
      have ha6 : H6 a ≠ none := by rw [e6]; exact fun z => nomatch z
      rw [av_up] at i6
      refine ⟨vs', e6, by rw [i6'.length]; exact q6.1, M6, O6, acc ++ [y], vs' ++ [v6], N6.put ha6, upd_same, ?_, (l3.trans l56).put n, q6.2⟩
      have s : Step (Up (Av B M6 O6) a) H6 (Up (Av B M6 O6) a) (upd H6 a (.lst (vs' ++ [v6]))) := fun b o e nb => ⟨by rw [upd_ne (fun z => nb (.inr z))]; exact e, nb⟩
      exact (i6'.append (.cons i6 .nil)).step s
  · left
    have hn : ds.drop i = [] := List.drop_eq_nil_of_le (by omega)
    rw [hn] at q2
    exact ⟨⟨vsl, SqL.of f1, by rw [f2.length]; omega⟩, q2.2 a H2 O2 N2 (l1.trans l2) ⟨vs', e2, i2⟩⟩
theorem df_compMM (hc : X.calm = true) (hN : X.N.Nodup) (ho : DE w p X o go) (ok : BlkOk X.N X.env.scope scope own)
    (hg : ∀ (s : Shared) (H : Hp) (C : Addr) (cl : List (Str × Addr)) (fp : List Addr), DT' (X.blk s H scope (compEnvC scope cl C X.env) fp) tg ws gt)
    (ht : ∀ (s : Shared) (H : Hp) (C : Addr) (cl : List (Str × Addr)) (fp : List Addr), DTts p (X.blk s H scope (compEnvC scope cl C X.env) fp) ifs gtt)
    (he : ∀ (s : Shared) (H : Hp) (C : Addr) (cl : List (Str × Addr)) (fp : List Addr), DE true p (X.blk s H scope (compEnvC scope cl C X.env) fp) elt ge)
    (hws : ∀ j ∈ ws, j ∈ own.map (·.2) := by decide) (hs : ∀ x, foldedSetIterable o X.env x = pure x := by intro _; rfl) : DF p X (.ListComp elt [⟨tg, o, ifs, 0⟩] scope pos) (gLcM go gt gtt ge (own.map (·.2))) := by
  have hgm := (hg X.s_0 X.H_0 0 [] []).p.mono
  have htm := (ht X.s_0 X.H_0 0 [] []).mono
  have hem := (he X.s_0 X.H_0 0 [] []).mono
  have hgs := (hg X.s_0 X.H_0 0 [] []).s
  obtain ⟨wi, hpi, hwi⟩ := di_memX (tg := tg) ho
  exact ⟨peI (pe_lc (te := uE p X.K ge) (tt := uT p X.K gtt) (g := uG X.K ws gt) hc hN hpi ok (fun s H C cl fp => (hg s H C cl fp).u) (fun s H C cl fp => (ht s H C cl fp).u) (fun s H C cl fp => (he s H C cl fp).u) hs) (lcM_imp hwi hgm htm hem hgs hws),
    fun r M Q Q' h q => ⟨q.1, ho.mono _ _ _ _ (fun d M1 q1 => mlK_mono (fun l ds q2 => lcDM_mono hgm htm hem ds _ _ _ _ (fun a M' q2 => h _ _ q2) q2) q1) q.2⟩⟩
end
theorem lcM_mp {l : Addr} {all : List D} {gt : GG} {ge : GE} {r : DL.Fr} {M : Mem} {Q : List D → Mem → Prop} {α : Type} {enc f : α → D} {xs : List α} {acc : List D} (ml : M l = some (.om (.lst all))) (h : ∀ x ∈ xs, ∀ Q' : D → Mem → Prop, Q' (f x) M → gt (enc x) r M fun r1 M1 => ge r1 M1 Q') (hz : acc.length + xs.length ≤ sizeLine) (q : Q (acc ++ xs.map f) M) :
    lcDM l all gt gYes ge r (xs.map enc) acc M Q := by
  induction xs generalizing acc with
  | nil =>
    refine ⟨ml, ?_⟩
    simpa using q
  | cons x xs ih =>
    have hz' : acc.length + (xs.length + 1) ≤ sizeLine := hz
    refine ⟨ml, h x (List.mem_cons_self ..) _ ⟨by omega, ih (fun y hy => h y (List.mem_cons_of_mem _ hy)) ?_ ?_⟩⟩
    · rw [List.length_append, List.length_cons, List.length_nil]; omega
    · rw [List.append_assoc]; exact q
end DL
set_option Elab.async false
set_option linter.all false
set_option maxRecDepth 100000
set_option maxHeartbeats 2000000
namespace L2
open PySem PySem.Spec PyProof.Rows
/-- a caught exception of the class cls, at a -/
def ExC (cls : Value) (a : Addr) : HO := .ext fun h => ∃ (oe : Obj) (vs : Array Value), h.get? a = some oe ∧ Zc cls none oe ∧ oe.data = .fields vs
end L2
set_option Elab.async false
set_option linter.all false
set_option maxRecDepth 100000
set_option maxHeartbeats 2000000
namespace DL
open PySem PySem.Spec PySem.W PyProof.Rows L2
section
variable {X : Cx} {B : Addr → Prop} {E : En} {σ : L2.St} {H H' : Hp} {r : DL.Fr} {M M' : Mem} {O O' : Own} {p w : Bool} {ks : List AK}
def nox : Addr → Mem → Prop := fun _ _ => False
def Fr.mute (r : DL.Fr) : DL.Fr := { r with ex := nox }
abbrev GX := DL.Fr → Mem → (D → Mem → Prop) → (Addr → Mem → Prop) → Prop
section
variable {e : Expr} {es : List Expr} {gs : GA} {n : Nat} {f : Addr} {fd : FuncData} {ps : List Str} {fs : FS} {x : Str} {pf pos : Pos}
def gxP (fs : FS) (gs : GA) : GX := fun r M Q Xc => gs r M fun ds M1 => fs ds M0 (fun d _ => Q d M1) fun C _ => Xc C M1
def gxM (fs : FS) (gs : GA) : GX := fun r M Q Xc => gs r M fun ds M1 => fs ds M1 Q Xc
end
end
end DL
set_option Elab.async false
set_option linter.all false
set_option maxRecDepth 100000
set_option maxHeartbeats 2000000
namespace DL
open PySem PySem.Spec PySem.W PyProof.Rows L2
section
variable {X : Cx} {B : Addr → Prop} {E : En} {σ : L2.St} {H H' : Hp} {r : DL.Fr} {M M' : Mem} {O O' : Own}
theorem Rep.keep (R : Rep X B E σ H r M O) {a : Addr} {u : HO} (n : H a = none) : Rep X B E σ (upd H a u) r (mup M a (.ho u)) O := (New.of R n).toMem (m := .ho u) upd_same
/-- what is wanted of an exception: caught (and kept at a) or passed on -/
def caught (tb : List (Addr × Bool)) (jz jn : Nat) (D : DEnds) (r : DL.Fr) : Addr → Mem → Prop := fun C M' => ∃ b, (C, b) ∈ tb ∧ (b = true → ∀ a, M' a = none → D.nx ((r.set jz (.v (.ref a))).set jn .n) (mup M' a (.ho (ExC (.ref C) a)))) ∧ (b = false → r.ex C M')
def gTryE (jz jn : Nat) (tb : List (Addr × Bool)) (gx : GX) : GS := fun D r M => gx (Fr.mute r) M (fun _ M' => D.nx r M') (caught tb jz jn D r)
def gTryV (jy jz jn : Nat) (tb : List (Addr × Bool)) (gx : GX) : GS := fun D r M => gx (Fr.mute r) M (fun d M' => D.nx (r.set jy (.v d)) M') (caught tb jz jn D r)
end
end DL
set_option Elab.async false
set_option linter.all false
set_option maxRecDepth 100000
set_option maxHeartbeats 2000000
namespace DL
open PySem PySem.Spec PySem.W PyProof.Rows L2
theorem excB_ok {K : PySem.W.Frag} {D : Addr} (h : excB K D = true) : ExcC K D := by
  obtain ⟨h1, h⟩ := He.ba h
  obtain ⟨h2, h⟩ := He.ba h
  obtain ⟨h3, h⟩ := He.ba h
  obtain ⟨h4, h⟩ := He.ba h
  obtain ⟨h5, h⟩ := He.ba h
  obtain ⟨h6, h⟩ := He.ba h
  obtain ⟨h7, h8⟩ := He.ba h
  exact ⟨of_decide_eq_true h1, of_decide_eq_true h2, of_decide_eq_true h3, h4, of_decide_eq_true h5, of_decide_eq_true h6, of_decide_eq_true h7, of_decide_eq_true h8⟩
end DL
set_option Elab.async false
set_option linter.all false
set_option maxRecDepth 100000
set_option maxHeartbeats 2000000
namespace DL
open PySem PySem.Spec PySem.W PyProof.Rows L2
section
variable {X : Cx} {p w : Bool} {a b : Expr} {ga gb : GE}
def gCnt (ga gb : GE) : GE := fun r M Q => ga r M fun d M1 => match d with
  | .lst ds => gb r M1 fun e M2 => (D.ok (.lst ds) = true ∧ e.ok = true) ∧ Q (.int (ds.countP fun z => z.eqv e : Nat)) M2
  | _ => False
end
end DL
set_option Elab.async false
set_option linter.all false
set_option maxRecDepth 100000
namespace DL
open PySem PySem.Spec PySem.W PyProof.Rows L2
section
variable {fa : List He.Fa} {fn : List He.DefD} {ts : List He.Tab} {cs : List Ck} {w : World} {K : PySem.W.Frag} {mg : Str → Option Value}
theorem WorC.exq (W : WorC fa fn ts cs w K mg) (i : Nat) {x : Str} (h : cs[i]? = some (.exq x) := by rfl) : ExcC K (He.ga K x) := excB_ok (W.ck i h)
theorem WorC.isq (W : WorC fa fn ts cs w K mg) (i : Nat) {x : Str} {c : PySem.W.Frag → D} {b : Bool} (h : cs[i]? = some (.isq x c b) := by rfl) : kitD K (.ref (He.ga K x)) (c K) = some b := of_decide_eq_true (W.ck i h)
end
end DL
set_option Elab.async false
set_option linter.all false
set_option maxRecDepth 100000
namespace DL
open PySem PySem.Spec PySem.W PyProof.Rows L2
def stepL {α : Type} (c : Int) (xs : List α) : List α := if c = 1 then xs else xs.reverse
section
variable {X : Cx} {p w w1 w2 : Bool} {a b e : Expr} {ga gb : GE} {pos : Pos}
def stepK (d e : D) (M : Mem) (Q : D → Mem → Prop) : Prop := match d, e with
  | .lst xs, .int c => (c = 1 ∨ c = -1) ∧ Q (.lst (stepL c xs)) M
  | _, _ => False
theorem stepK_lst {xs : List D} {c : Int} {M : Mem} {Q : D → Mem → Prop} : stepK (.lst xs) (.int c) M Q = ((c = 1 ∨ c = -1) ∧ Q (.lst (stepL c xs)) M) := rfl
def gStep (ga gb : GE) : GE := fun r M Q => ga r M fun d M1 => gb r M1 fun e M2 => stepK d e M2 Q
end
end DL
set_option Elab.async false
set_option linter.all false
set_option maxRecDepth 100000
namespace DL
open PySem PySem.Spec PySem.W PyProof.Rows L2
end DL
set_option Elab.async false
set_option linter.all false
set_option maxRecDepth 100000
namespace DL
open PySem PySem.Spec PySem.W PyProof.Rows L2
section
variable {X : Cx} {p : Bool} {e : Expr} {gf : GF} {pos : Pos}
/-- x.append(a new list), that stands in memory -/
def gAppM (i : Nat) (gf : GF) : GS := fun D r M => match r.sl[i]? with
  | some (.o (.lst ds)) => gf r M fun m M1 => ds.length < sizeLine ∧ ∀ a, M1 a = none → D.nx (r.set i (.o (.lst (ds ++ [.ref a])))) (mup M1 a (.om m))
  | _ => False
end
end DL
set_option Elab.async false
set_option linter.all false
set_option maxRecDepth 100000
namespace DL
open PySem PySem.Spec PySem.W PyProof.Rows L2
section
variable {X : Cx} {w w1 w2 w3 p : Bool} {a b c e f o : Expr} {es : List Expr} {ga gb gc go ge gz : GE} {gf : GF} {B : Addr → Prop} {E : En} {σ : L2.St} {H : Hp} {r : Fr} {M : Mem} {O : Own} {pos pos' : Pos}
theorem new_dic (R : Rep X B E σ H r M O) {kvs : List (Key × V)} {kds : List (Key × D)} (l : IsK X.K (Av B M O) H kvs kds) {a : Addr} (n : H a = none) : New X B E σ (upd H a (.dK kvs)) r M O a ∧ OOk X.K (Up (Av B M O) a) (upd H a (.dK kvs)) a (.dic kds) :=
  ⟨New.of R n, kvs, upd_same, l.step fun b u e nb => by
    have ne := ne_of_none e n
    exact ⟨by rw [upd_ne ne]; exact e, fun z => z.elim nb ne⟩⟩
def pairsOf : List D → Option (List (Key × D))
  | [] => some []
  | .tup [k, v] :: r => match keyD k, pairsOf r with
    | some k, some l => some ((k, v) :: l)
    | _, _ => none
  | _ => none
def dictK (d : D) (k : List (Key × D) → Prop) : Prop := match d with
  | .lst xs => ∃ kds, pairsOf xs = some kds ∧ k (mergeD [] kds)
  | .tup xs => ∃ kds, pairsOf xs = some kds ∧ k (mergeD [] kds)
  | .dic kds => k kds
  | _ => False
theorem dictK_lst {xs : List D} {k : List (Key × D) → Prop} : dictK (.lst xs) k = ∃ kds, pairsOf xs = some kds ∧ k (mergeD [] kds) := rfl
theorem dictK_tup {xs : List D} {k : List (Key × D) → Prop} : dictK (.tup xs) k = ∃ kds, pairsOf xs = some kds ∧ k (mergeD [] kds) := rfl
theorem dictK_dic {kds : List (Key × D)} {k : List (Key × D) → Prop} : dictK (.dic kds) k = k kds := rfl
def gDictV (ga : GE) : GE := fun r M Q => ga r M fun d M1 => dictK d fun kds => Q (.dic kds) M1
def gFdict (ga : GE) : GF := fun r M Q => ga r M fun d M1 => dictK d fun kds => Q (.dic kds) M1
/-- {} -/
def gDic0 : GE := fun _ M Q => Q (.dic []) M
def gFdic0 : GF := fun _ M Q => Q (.dic []) M
theorem df_dic0 : DF p X (.Dict [] [] pos) gFdic0 :=
  ⟨peI pe_dnewK fun σ H Q ⟨B, E, r, M, O, R, q⟩ a n => by
    obtain ⟨N, q2⟩ := new_dic R .nil n
    exact q a _ O N (Rl.of_same (same_upd n)) q2, fun r M Q Q' h q => h _ _ q⟩
def dicK (d : D) (k : List (Key × D) → Prop) : Prop := match d with
  | .dic kds => k kds
  | _ => False
theorem dicK_dic {kds : List (Key × D)} {k : List (Key × D) → Prop} : dicK (.dic kds) k = k kds := rfl
theorem dicK_mono {d : D} {k k' : List (Key × D) → Prop} (h : ∀ kds, k kds → k' kds) (q : dicK d k) : dicK d k' := by
  unfold dicK at q ⊢
  split at q
  · exact h _ q
  · exact q
def getK (kds : List (Key × D)) (e z : D) (k : D → Prop) : Prop := ∃ key, keyD e = some key ∧ k ((valD kds key).getD z)
/-- d.get(k), d.get(k, x) -/
def gDGet1 (go ge : GE) : GE := fun r M Q => go r M fun d M1 => dicK d fun kds => ge r M1 fun e M2 => getK kds e .non fun z => Q z M2
def gDGet2 (go ge gz : GE) : GE := fun r M Q => go r M fun d M1 => dicK d fun kds => ge r M1 fun e M2 => gz r M2 fun z M3 => getK kds e z fun z => Q z M3
theorem is_getD {K : PySem.W.Frag} {A : Addr → Prop} {H : Hp} {kvs : List (Key × V)} {kds : List (Key × D)} {k : Key} {v : V} {z : D} (l : IsK K A H kvs kds) (i : Is K A H v z) : Is K A H ((valV kvs k).getD v) ((valD kds k).getD z) := by
  obtain ⟨h1, h2⟩ := l.val (k := k)
  cases e : valD kds k with
  | none => rw [h2 e]; exact i
  | some d =>
    obtain ⟨x, e1, e2⟩ := h1 d e
    rw [e1]
    exact e2
theorem de_dget1 {nm : Str} {apos cpos : Pos} (hu : X.A.units + 1 < cLine) (ho : DE w1 p X o go) (he : DE true p X e ge) (hnm : nm = "get" := by rfl) (hw : (w1 || p) = true := by first | rfl | exact Bool.or_true _)
    (m : M1 X o "get" apos e cpos := by exact ⟨rfl, rfl, rfl, rfl⟩) : DE true p X (.Call (.Attribute o nm apos) [e] [] cpos) (gDGet1 go ge) := by
  subst hnm
  refine ⟨peI (pe_dget1 hu ho.run he.run m) fun σ H Q ⟨B, E, r, M, O, R, q⟩ => ?_, fun r M Q Q' h q => ho.mono _ _ _ _ (fun d M1 q1 => dicK_mono (fun kds q2 => he.mono _ _ _ _ (fun e M2 ⟨k, e1, q3⟩ => ⟨k, e1, h _ _ q3⟩) q2) q1) q⟩
  refine ho.on R q fun d M1 v H1 O1 k1 R1 l1 i1 => ?_
  cases d with
  | dic kds =>
    obtain ⟨a, kvs, rfl, h1, lk⟩ := i1.one
    refine ⟨a, rfl, .inl ⟨kvs, h1⟩, ?_⟩
    refine he.on R1 k1 fun e M2 u H2 O2 k2 R2 l2 i2 => ?_
    have i2' : Is X.K (Av B M2 O2) H2 u e := i2
    obtain ⟨k, ek, k2⟩ := k2
    have ku := keyD_kV ek i2'
    subst ku
    obtain ⟨a', kvs', ea, h1', lk'⟩ := (IsX.next hw l2 i1).one
    cases ea
    exact ⟨valV kvs' k, .inl ⟨kvs', k, h1', rfl, rfl⟩, k2 _ H2 O2 R2 (l1.trans l2) (is_getD lk' .non)⟩
  | _ => exact k1.elim
theorem walk_keysD {H1 : Hp} {M1 : Mem} {O1 : Own} {a : Addr} {ob : Obj} {kvs : List (Key × V)} {kds : List (Key × D)} (n : ¬ Mut M1 O1 a) (h : H1 a = some (.frz ob (.dK kvs))) (l : IsK X.K (Av B M1 O1) H1 kvs kds) : WalkOk X B H1 M1 O1 (Itk a ob kvs) (kds.map fun kv => kD kv.1) := by
  intro A U H fA sA s i
  have h' := (s a _ h n).1
  have l' : kvs.length = kds.length := l.len
  refine ⟨fun d hd => ?_, fun hle => ⟨h', by rw [List.length_map] at hle; omega⟩⟩
  obtain ⟨hi, ed⟩ := List.getElem?_eq_some_iff.mp hd
  rw [List.length_map] at hi
  refine ⟨⟨h', by omega⟩, fun x H' ⟨e1, k, v, e2, e3⟩ => ?_⟩
  subst e1 e3
  refine ⟨Same.refl _, ?_⟩
  have e4 := (IsK.keys (l.step sA)).get (i := i) (d := d) (by rw [hd])
  obtain ⟨u, f1, f2⟩ := e4
  rw [List.getElem?_map, e2] at f1
  cases f1
  exact f2
def giKeys (ga : GE) : GI := fun r M Q => ga r M fun d M1 => dicK d fun kds => Q (kds.map fun kv => kD kv.1) M1
theorem di_keys {tg iter : Expr} (ha : DE true p X iter ga) : DI p X tg iter (giKeys ga) where
  ex := ⟨_, pi_keys ha.run, fun B E σ H r M O k R' R q hR => by
    refine ha.on R q fun d M1 v H1 O1 k1 R1 l1 i1 => ?_
    have i1 : Is X.K (Av B M1 O1) H1 v d := i1
    cases d with
    | dic kds =>
      cases i1 with
      | @dic a kvs _ h l =>
        obtain ⟨n, ob, h⟩ := h
        exact ⟨a, ob, rfl, .inl ⟨kvs, h, hR _ M1 H1 O1 _ k1 R1 l1 (walk_keysD (fun z => n (.inr z)) h l)⟩⟩
    | _ => exact k1.elim⟩
  mono := fun r M Q Q' h q => ha.mono _ _ _ _ (fun d M1 q1 => dicK_mono (fun kds q2 => h _ _ q2) q1) q
end
end DL
set_option Elab.async false
set_option linter.all false
set_option maxRecDepth 100000
namespace DL
open PySem PySem.Spec PySem.W PyProof.Rows L2
section
variable {X : Cx} {w w1 w2 w3 p : Bool} {a b c e f o : Expr} {es : List Expr} {ga gb gc go ge gv gz : GE} {gf : GF} {B : Addr → Prop} {E : En} {σ : L2.St} {H : Hp} {r : Fr} {M : Mem} {O : Own} {pos pos' : Pos}
/-- x[k] = v, x a slot's own dict -/
def gOPut (i : Nat) (ge gv : GE) : GS := fun D r M => match r.sl[i]? with
  | some (.o (.dic kds)) => gv r M fun v M1 => ge r M1 fun e M2 => ∃ k, keyD e = some k ∧ kds.length < sizeLine ∧ D.nx (r.set i (.o (.dic (putD kds k v)))) M2
  | _ => False
theorem ds_oput (i : Nat) {x : Str} {px : Pos} (hu : X.A.units + 1 < cLine) (hv' : DE true p X c gv) (he : DE true p X e ge) (hN : X.N[i]? = some x := by rfl) (hv : Vis X.env.scope x := by first | exact Or.inl rfl | exact Or.inr (Or.inl rfl) | exact Or.inr (Or.inr rfl)) (hd : (x == ("__debug__" : Str)) = false := by decide)
    (hcd : (x == ("__classdict__" : Str)) = false := by decide) (hs : swapsWith c (some (.Subscript (.Name x px) e pos')) pos.line X.env = pure false := by rfl) : DS X (.Assign [.Subscript (.Name x px) e pos'] c pos) (gOPut i ge gv) := by
  refine ⟨psI (ps_dput hu (pe_var (pos := px) hN hv hd hcd) he.run hv'.run hs) fun D σ H ⟨B, E, r, M, O, R, q⟩ => ?_, fun D D' r M l q => ?_⟩
  · unfold gOPut at q
    split at q
    · rename_i kds er
      obtain ⟨x, e1, a, e2, ha, kvs, e3, l3⟩ := R.slot er
      subst e2
      refine hv'.on R q fun z M1 x H1 O1 k1 R1 l1 i1 => ?_
      refine ⟨.ref a, e1, ?_⟩
      refine he.on R1 k1 fun d M2 u H2 O2 k2 R2 l2 i2 => ?_
      obtain ⟨k, ek, hz, k2⟩ := k2
      have iz : Is X.K (Av B M2 O2) H2 x z := Is.step l2.avs (show Is X.K (Av B M1 O1) H1 x z from i1)
      have iu : Is X.K (Av B M2 O2) H2 u d := i2
      have ku := keyD_kV ek iu
      subst ku
      obtain ⟨x', f1, a', f2, ha', kvs', f3, l3'⟩ := R2.slot er
      rw [e1] at f1
      cases f1
      have f2 : some (V.ref a) = some (V.ref a') := f2
      cases f2
      refine ⟨a, _, rfl, .inl ⟨kvs', k, f3, rfl, by rw [l3'.len]; exact hz, rfl⟩, ?_⟩
      refine k2 σ _ O2 (R2.mutO er e1 ha' ⟨putK kvs' k x, upd_same, ?_⟩)
      have s : Step (Av B M2 O2) H2 (Av B M2 O2) (upd H2 a (.dK (putK kvs' k x))) := fun b o eb nb => ⟨by
        rw [upd_ne (fun z => nb (by rw [z]; exact .inr (.inr (by rw [ha']; simp))))]; exact eb, nb⟩
      exact (l3'.put iz).step s
    · exact q.elim
  · unfold gOPut at q ⊢
    split at q
    · exact hv'.mono _ _ _ _ (fun v M1 q1 => he.mono _ _ _ _ (fun e M2 ⟨k, h1, h2, h3⟩ => ⟨k, h1, h2, l.nx _ _ h3⟩) q1) q
    · exact q.elim
/-- x.pop(k, z), the value dropped -/
def dropD (kds : List (Key × D)) (k : Key) : List (Key × D) := kds.filter fun kv => decide (kv.1 ≠ k)
theorem IsK.drop {K : PySem.W.Frag} {A : Addr → Prop} {H : Hp} (k : Key) : ∀ {kvs : List (Key × V)} {kds : List (Key × D)}, IsK K A H kvs kds → IsK K A H (dropK kvs k) (dropD kds k)
  | _, _, .nil => .nil
  | _, _, .cons (k := j) h t => by
    unfold dropK dropD
    rw [List.filter_cons, List.filter_cons]
    by_cases e : j = k
    · rw [if_neg (by simp [e]), if_neg (by simp [e])]
      exact IsK.drop k t
    · rw [if_pos (by simp [e]), if_pos (by simp [e])]
      exact .cons h (IsK.drop k t)
def gOPop (i : Nat) (ge gz : GE) : GS := fun D r M => match r.sl[i]? with
  | some (.o (.dic kds)) => ge r M fun e M1 => gz r M1 fun z M2 => ∃ k, keyD e = some k ∧ D.nx (r.set i (.o (.dic (dropD kds k)))) M2
  | _ => False
def gPconsI (x : Int) (g : GE) (gs : GPs) : GPs := fun r M Q => g r M fun d M1 => gs r M1 fun kds M2 => Q ((.inl x, d) :: kds) M2
def gDispV (gp : GPs) : GE := fun r M Q => gp r M fun kds M1 => Q (.dic (mergeD [] kds)) M1
end
end DL
set_option Elab.async false
set_option linter.all false
set_option maxRecDepth 100000
namespace DL
open PySem PySem.Spec PySem.W PyProof.Rows L2
section
variable {X : Cx} {w p : Bool} {a b e : Expr} {gs : GA} {B : Addr → Prop} {E : En} {σ : L2.St} {H : Hp} {r : Fr} {M : Mem} {O : Own} {pos : Pos}
def gOIns (i : Nat) (gs : GA) : GS := fun D r M => match r.sl[i]? with
  | some (.o (.lst ds)) => gs r M fun zs M1 => ins2K zs ds fun ds' => D.nx (r.set i (.o (.lst ds'))) M1
  | _ => False
end
end DL
set_option Elab.async false
set_option linter.all false
set_option maxRecDepth 100000
set_option maxHeartbeats 2000000
namespace DL
open PySem PySem.Spec PySem.W PyProof.Rows L2 LamX
abbrev LmT := Mem → (D → Mem → Prop) → (Addr → Mem → Prop) → Prop
abbrev LSp := XK → Hp → VK → Prop
def MonoT (tl : LmT) : Prop := ∀ M Q Q' X X', (∀ d M', Q d M' → Q' d M') → (∀ C M', X C M' → X' C M') → tl M Q X → tl M Q' X'
/-- what a lambda promises, wherever it is called -/
def LamPr (K : PySem.W.Frag) (U0 : Addr → Prop) (H0 : Hp) (tl : LmT) (sp : LSp) : Prop := ∀ (B : Addr → Prop) (M : Mem) (O : Own) (H : Hp) (Qd : D → Mem → Prop) (Xd : Addr → Mem → Prop) (Q : VK) (E : XK), MemOk K B H M O → Flds O → Step U0 H0 (Av B M O) H → tl M Qd Xd →
  (∀ d M' v H' O', Qd d M' → MemOk K B H' M' O' → Flds O' → Step (Mut M O) H (Mut M' O') H' → Is K (Av B M' O') H' v d → Q v H') →
  (∀ C M' H' O', Xd C M' → MemOk K B H' M' O' → Flds O' → Step (Mut M O) H (Mut M' O') H' → E (.ref C) none H') → sp E H Q
/-- f, called within X -/
def LamAct (X : Cx) (f : Addr) (sp : LSp) : Prop := ∀ (pn : List (Addr × Obj)) (xe : Value → Shared → Prop) (pins : List (Addr × Obj)) (s : Shared) (σ : L2.St) (H : Hp) (Q : VK) (E : XK), Inv (X.tr pn xe) pins σ H s → sp E H Q →
  (∀ u s', L2.CX X.prog X.w X.stack H s E u s' → xe u s') → PySem.W.FnAt f s.heap ∧ wpAny (model X.prog X.w) X.A (call (.ref f) []) (EP (X.tr pn xe) pins σ Q) xe s
section
variable {X : Cx} {B : Addr → Prop} {E : En} {σ : L2.St} {H H' : Hp} {r : DL.Fr} {M M' : Mem} {O O' : Own}
section
variable {a : Str} {p1 p2 : Pos} {lm : Lm} {sp : LSp}
/-- x(), x the lambda that was handed in -/
def gAct (i : Nat) (lm : Lm) : GE := fun r M Q => r.sl[i]? = some (.f lm) ∧ lm.tl M Q r.ex
def gxAct (i : Nat) (lm : Lm) : GX := fun r M Q Xc => r.sl[i]? = some (.f lm) ∧ lm.tl M Q Xc
end
end
end DL
set_option Elab.async false
set_option linter.all false
set_option maxRecDepth 100000
set_option maxHeartbeats 2000000
namespace DL
open PySem PySem.Spec PySem.W PyProof.Rows L2 LamX
/-- the slots that it may read -/
def lam1 : Sl → Sl
  | .v d => .v d
  | _ => .n
def lamS : List Sl → List Sl
  | [] => []
  | x :: r => lam1 x :: lamS r
/-- its reading at the maker's frame -/
def gLamT (gb : GE) (r : DL.Fr) (M : Mem) (Q : D → Mem → Prop) (X : Addr → Mem → Prop) : Prop := ∃ Xd : Addr → Mem → Prop, (∀ C M', Xd C M' → X C M') ∧ gb ⟨lamS r.sl, Xd⟩ M Q
structure FnL (P : Program) (w : World) (K : PySem.W.Frag) (mg : Str → Option Value) (base : Heap) (k : Nat) (g : Addr) (N : List Str) (qual : Str) (sc : Scope) (cdv : Value) (ks : List AK) (fs : LmT → FS) : Prop where
  run : ∀ (A : Around) (outer : List Env) (s : Shared) (H : Hp) (lm : Lm) (sp : LSp) (us : List Value) (vs : List V) (B : Addr → Prop) (M : Mem) (O : Own) (ds : List D) (Q : VK) (Ex : XK), Room k A → A.guards = some [] → Env0 P w K mg base A outer s H → Vals vs us → us.length = ks.length →
    MemOk K B H M O → Flds O → ArgsOk K (Av B M O) (Mut M O) H ks vs ds → lm.U = Av B M O → lm.H = H → MonoT lm.tl → LamPr K lm.U lm.H lm.tl sp → LamAct (cxOf (L2.CX P w) P w K mg base N qual sc g cdv A outer s H Ex) lm.f sp →
    fs lm.tl ds M (fun d M' => ∀ v H' O', MemOk K B H' M' O' → Flds O' → Step (Mut M O) H (Mut M' O') H' → Is K (Av B M' O') H' v d → Q v H') (fun C M' => ∀ H' O', MemOk K B H' M' O' → Flds O' → Step (Mut M O) H (Mut M' O') H' → Ex (.ref C) none H') →
    codeAny (model P w) A (.call (.ref g) ⟨.ref lm.f :: us, []⟩) (CR (L2.CX P w) outer P w H s Q Ex) s
def entryL (n : Nat) (lm : Lm) (ks : List AK) (ds : List D) (X : Addr → Mem → Prop) : DL.Fr := ⟨.f lm :: aSls ks ds ++ List.replicate (n - 1 - ks.length) .n, X⟩
theorem roomDown {j k : Nat} {A : Around} (r : Room k A) (h : j ≤ k) : Room j A := r.mono h
/-- a def that is handed a lambda first, by its name -/
structure DefL (P : Program) (w : World) (K : PySem.W.Frag) (mg : Str → Option Value) (base : Heap) (n : Nat) (x : Str) (a : Str) (ks : List AK) (fs : LmT → FS) : Prop where
  ex : ∃ f N qual sc cdv, FnL P w K mg base n f N qual sc cdv ks fs ∧ mg x = some (.ref f) ∧ PySem.W.keepIn K (.ref f) = true
  mo : ∀ tl, MonoT tl → MonoF (fs tl)
theorem DefL.mono {P : Program} {w : World} {K : PySem.W.Frag} {mg : Str → Option Value} {base : Heap} {j n : Nat} {x a : Str} {ks : List AK} {fs : LmT → FS} (D : DefL P w K mg base j x a ks fs) (h : j ≤ n := by decide) : DefL P w K mg base n x a ks fs :=
  let ⟨f, N, qual, sc, cdv, F, q⟩ := D.ex
  ⟨⟨f, N, qual, sc, cdv, ⟨fun A outer s H lm sp us vs B M O ds Q Ex hr => F.run A outer s H lm sp us vs B M O ds Q Ex (roomDown hr h)⟩, q⟩, D.mo⟩
section
variable {X : Cx} {es : List Expr} {gs : GA} {gb : GE} {n : Nat} {x a : Str} {ks : List AK} {fs : LmT → FS} {pf lpos pos : Pos} {params : Arguments} {body : Expr} {scope : Scope} {q : Str} {c P : Addr}
/-- x(lambda: body, ..) -/
def gCallL (P : Addr) (q : Str) (fs : LmT → FS) (gb : GE) (gs : GA) : GE := fun r M Q => M P = some (.tab q) ∧ gs r M fun ds M1 => fs (gLamT gb r) ds M1 Q r.ex
end
end DL
set_option Elab.async false
set_option linter.all false
set_option maxRecDepth 100000
set_option maxHeartbeats 2000000
namespace DL
open PySem PySem.Spec PySem.W PyProof.Rows L2 LamX
end DL
set_option Elab.async false
set_option linter.all false
set_option maxRecDepth 100000
set_option maxHeartbeats 2000000
namespace DL
open PySem PySem.Spec PySem.W PyProof.Rows L2 LamX
end DL
set_option Elab.async false
set_option linter.all false
set_option maxRecDepth 100000
set_option maxHeartbeats 2000000
namespace DL
open PySem PySem.Spec PySem.W PyProof.Rows L2
section
variable {X : Cx} {w p : Bool} {e : Expr} {ga : GE} {B : Addr → Prop} {E : En} {σ : L2.St} {H : Hp} {r : Fr} {M : Mem} {O : Own} {pf apos cpos pos tpos : Pos} {M1 : Mem} {O1 : Own} {H1 : Hp}
/-- a key and its value -/
def kvD (q : Key × D) : D := .tup [kD q.1, q.2]
def gItemsT (ga : GE) : GE := fun r M Q => ga r M fun d M1 => dicK d fun kds => Q (.tup (kds.map kvD)) M1
def gFvals (ga : GE) : GF := fun r M Q => ga r M fun d M1 => dicK d fun kds => Q (.lst (kds.map Prod.snd)) M1
def giItems (ga : GE) : GI := fun r M Q => ga r M fun d M1 => dicK d fun kds => Q (kds.map kvD) M1
end
end DL
set_option Elab.async false
set_option linter.all false
set_option maxRecDepth 100000
set_option maxHeartbeats 2000000
namespace DL
open PySem PySem.Spec PySem.W PyProof.Rows L2
section
variable {X : Cx} {B : Addr → Prop} {E : En} {σ : L2.St} {H H' : Hp} {r : DL.Fr} {M M' : Mem} {O O' : Own} {p w : Bool} {ks : List AK}
variable {e : Expr} {es : List Expr} {gs : GA} {n : Nat} {a : PySem.Str} {pf pos : Pos} {tbl : List (Addr × FS)}
/-- x(..) of a def that changes nothing, x a slot -/
def gxV (i : Nat) (tbl : List (Addr × FS)) (gs : GA) : GX := fun r M Q Xc => ∃ f fs, r.sl[i]? = some (.v (.ref f)) ∧ (f, fs) ∈ tbl ∧ gs r M fun ds M1 => fs ds M0 (fun d _ => Q d M1) fun C _ => Xc C M1
end
def strsOf : List (Key × D) → Option (List PySem.Str)
  | [] => some []
  | (.inr x, _) :: r => (strsOf r).map (x :: ·)
  | _ => none
def sortDK (d : D) (k : List D → Prop) : Prop := match d with
  | .dic kds => kds.length < 64 ∧ ∃ ks, strsOf kds = some ks ∧ ∀ ys : List PySem.Str, ys.Perm ks → k (ys.map .str)
  | _ => False
theorem sortDK_dic {kds : List (Key × D)} {k : List D → Prop} : sortDK (.dic kds) k = (kds.length < 64 ∧ ∃ ks, strsOf kds = some ks ∧ ∀ ys : List PySem.Str, ys.Perm ks → k (ys.map .str)) := rfl
def gFsortD (ga : GE) : GF := fun r M Q => ga r M fun d M1 => sortDK d fun ds => Q (.lst ds) M1
end DL
set_option Elab.async false
set_option linter.all false
set_option maxRecDepth 100000
set_option maxHeartbeats 2000000
namespace DL
open PySem PySem.Spec PySem.W PyProof.Rows L2
theorem e_gSeq (g g' : GS) : ∀ D r M, gSeq g g' D r M = (g { D with nx := g' D } r M) := fun D r M => propext Iff.rfl
theorem e_gSet (i : Nat) (ge : GE) : ∀ D r M, gSet i ge D r M = (ge r M fun d M1 => D.nx (r.set i (.v d)) M1) := fun D r M => propext Iff.rfl
theorem e_gRet (ge : GE) : ∀ D r M, gRet ge D r M = (ge r M D.rt) := fun D r M => propext Iff.rfl
theorem e_gRetN : ∀ D u1 M, gRetN D u1 M = (D.rt .non M) := fun D u1 M => propext Iff.rfl
theorem e_gNext : ∀ D r M, gNext D r M = (D.nx r M) := fun D r M => propext Iff.rfl
theorem e_gIfS (c : GT) (g g' : GS) : ∀ D r M, gIfS c g g' D r M = (c r M fun b M1 => if b = true then g D r M1 else g' D r M1) := fun D r M => propext Iff.rfl
theorem e_gDrop (ge : GE) : ∀ D r M, gDrop ge D r M = (ge r M fun _ M1 => D.nx r M1) := fun D r M => propext Iff.rfl
theorem e_gOwn (i : Nat) (gf : GF) : ∀ D r M, gOwn i gf D r M = (gf r M fun m M1 => D.nx (r.set i (.o m)) M1) := fun D r M => propext Iff.rfl
theorem e_gApp (i : Nat) (ge : GE) : ∀ D r M, gApp i ge D r M = (match r.sl[i]? with
  | some (.o (.lst ds)) => ge r M fun d M1 => ds.length < sizeLine ∧ D.nx (r.set i (.o (.lst (ds ++ [d])))) M1
  | _ => False) := fun D r M => propext Iff.rfl
theorem e_gExt (i : Nat) (ge : GE) : ∀ D r M, gExt i ge D r M = (match r.sl[i]? with
  | some (.o (.lst ds)) => ge r M fun d M1 => match d with
    | .lst es => ds.length + es.length ≤ sizeLine ∧ D.nx (r.set i (.o (.lst (ds ++ es)))) M1
    | _ => False
  | _ => False) := fun D r M => propext Iff.rfl
theorem e_gForM (go : GE) (gt : GG) (gb : GS) : ∀ D r M, gForM go gt gb D r M = (go r M fun d M1 => mlK d M1 fun l ds => loopDM gt gb l ds ds D r M1) := fun D r M => propext Iff.rfl
theorem e_gLcM (go : GE) (gt : GG) (gtt : GT) (ge : GE) (vs : List Nat) : ∀ r M Q, gLcM go gt gtt ge vs r M Q = (noOwn r vs = true ∧ go r M fun d M1 => mlK d M1 fun l ds => lcDM l ds gt gtt ge (wipeF r vs) ds [] M1 fun acc M2 => Q (.lst acc) M2) := fun r M Q => propext Iff.rfl
theorem e_gCnt (ga gb : GE) : ∀ r M Q, gCnt ga gb r M Q = (ga r M fun d M1 => match d with
  | .lst ds => gb r M1 fun e M2 => (D.ok (.lst ds) = true ∧ e.ok = true) ∧ Q (.int (ds.countP fun z => z.eqv e : Nat)) M2
  | _ => False) := fun r M Q => propext Iff.rfl
theorem e_gTryV (jy jz jn : Nat) (tb : List (Addr × Bool)) (gx : GX) : ∀ D r M, gTryV jy jz jn tb gx D r M = (gx (Fr.mute r) M (fun d M' => D.nx (r.set jy (.v d)) M') (caught tb jz jn D r)) := fun D r M => propext Iff.rfl
theorem e_gTryE (jz jn : Nat) (tb : List (Addr × Bool)) (gx : GX) : ∀ D r M, gTryE jz jn tb gx D r M = (gx (Fr.mute r) M (fun _ M' => D.nx r M') (caught tb jz jn D r)) := fun D r M => propext Iff.rfl
theorem e_gxP (fs : FS) (gs : GA) : ∀ r M Q Xc, gxP fs gs r M Q Xc = (gs r M fun ds M1 => fs ds M0 (fun d _ => Q d M1) fun C _ => Xc C M1) := fun r M Q Xc => propext Iff.rfl
theorem e_gxM (fs : FS) (gs : GA) : ∀ r M Q Xc, gxM fs gs r M Q Xc = (gs r M fun ds M1 => fs ds M1 Q Xc) := fun r M Q Xc => propext Iff.rfl
theorem e_gIPut (i : Nat) (gi ge : GE) : ∀ D r M, gIPut i gi ge D r M = (ge r M fun d M1 => match r.sl[i]? with
  | some (.o (.lst ds)) => gi r M1 fun k M2 => match k with
    | .int k => (match ixN ds.length k with
      | some j => D.nx (r.set i (.o (.lst (ds.set j d)))) M2
      | none => False)
    | _ => False
  | _ => False) := fun D r M => propext Iff.rfl
theorem e_gFrz (i : Nat) (g : GS) : ∀ D r M, gFrz i g D r M = (g D (frz i r) M) := fun D r M => propext Iff.rfl
theorem e_gAsg (ge : GE) (gt : GG) : ∀ D r M, gAsg ge gt D r M = (ge r M fun d M1 => gt d r M1 D.nx) := fun D r M => propext Iff.rfl
theorem e_gPar (i j : Nat) (gs : GA) : ∀ D r M, gPar i j gs D r M = (gs r M fun ds M1 => match ds with
  | [d, e] => D.nx ((r.set i (.v d)).set j (.v e)) M1
  | _ => False) := fun D r M => propext Iff.rfl
theorem e_gPar3 (i j l : Nat) (gs : GA) : ∀ D r M, gPar3 i j l gs D r M = (gs r M fun ds M1 => match ds with
  | [d, e, u] => D.nx (((r.set i (.v d)).set j (.v e)).set l (.v u)) M1
  | _ => False) := fun D r M => propext Iff.rfl
theorem e_gAug (i : Nat) (go : GO) (ge : GE) : ∀ D r M, gAug i go ge D r M = (match r.sl[i]? with
  | some (.v d) => ge r M fun e M1 => go d e M1 fun z M2 => D.nx (r.set i (.v z)) M2
  | _ => False) := fun D r M => propext Iff.rfl
theorem e_gRaise (C : Addr) : ∀ u0 r M, gRaise C u0 r M = (r.ex C M) := fun u0 r M => propext Iff.rfl
theorem e_gRetM (gf : GF) : ∀ D r M, gRetM gf D r M = (gf r M fun m M1 => ∀ a, M1 a = none → D.rt (.ref a) (mup M1 a (.om m))) := fun D r M => propext Iff.rfl
theorem e_gSetM (i : Nat) (gf : GF) : ∀ D r M, gSetM i gf D r M = (gf r M fun m M1 => ∀ a, M1 a = none → D.nx (r.set i (.v (.ref a))) (mup M1 a (.om m))) := fun D r M => propext Iff.rfl
theorem e_gMPut (ga gb gc : GE) : ∀ D r M, gMPut ga gb gc D r M = (gc r M fun v M1 => ga r M1 fun d M2 => gb r M2 fun e M3 => match d, keyD e with
  | .ref l, some k => (match M3 l with
    | some (.om (.dic kds)) => kds.length < sizeLine ∧ D.nx r (mup M3 l (.om (.dic (putD kds k v))))
    | _ => False)
  | _, _ => False) := fun D r M => propext Iff.rfl
theorem e_gMGet (ga gb : GE) : ∀ r M Q, gMGet ga gb r M Q = (ga r M fun d M1 => gb r M1 fun e M2 => match d, keyD e with
  | .ref l, some k => (match M2 l with
    | some (.om (.dic kds)) => (match valD kds k with
      | some v => Q v M2
      | none => False)
    | _ => False)
  | .dic kds, some k => (match valD kds k with
    | some v => Q v M2
    | none => False)
  | _, _ => False) := fun r M Q => propext Iff.rfl
theorem e_g1 (go : GU) (ga : GE) : ∀ r M Q, g1 go ga r M Q = (ga r M fun d M1 => go d M1 Q) := fun r M Q => propext Iff.rfl
theorem e_g2 (go : GO) (ga gb : GE) : ∀ r M Q, g2 go ga gb r M Q = (ga r M fun d M1 => gb r M1 fun e M2 => go d e M2 Q) := fun r M Q => propext Iff.rfl
theorem e_gC (d : D) : ∀ u0 M Q, gC d u0 M Q = (Q d M) := fun u0 M Q => propext Iff.rfl
theorem e_gV (i : Nat) : ∀ r M Q, gV i r M Q = (match r.sl[i]? with
  | some (.v d) => Q d M
  | _ => False) := fun r M Q => propext Iff.rfl
theorem e_gVw (i : Nat) : ∀ r M Q, gVw i r M Q = (match r.sl[i]? with
  | some (.v d) => Q d M
  | some (.o (.lst ds)) => Q (.lst ds) M
  | some (.o (.dic ds)) => Q (.dic ds) M
  | some (.b true ds) => Q (.tup ds) M
  | some (.b false ds) => Q (.lst ds) M
  | _ => False) := fun r M Q => propext Iff.rfl
theorem e_gB (g : GE) : ∀ r M Q, gB g r M Q = (g r M fun d M' => match d with
  | .bl b => Q b M'
  | _ => False) := fun r M Q => propext Iff.rfl
theorem e_gAnd (t u : GT) : ∀ r M Q, gAnd t u r M Q = (t r M fun c M1 => if c = true then u r M1 Q else Q false M1) := fun r M Q => propext Iff.rfl
theorem e_gOr (t u : GT) : ∀ r M Q, gOr t u r M Q = (t r M fun c M1 => if c = true then Q true M1 else u r M1 Q) := fun r M Q => propext Iff.rfl
theorem e_gNot (t : GT) : ∀ r M Q, gNot t r M Q = (t r M fun c M1 => Q (!c) M1) := fun r M Q => propext Iff.rfl
theorem e_gNotV (ga : GE) : ∀ r M Q, gNotV ga r M Q = (ga r M fun d M1 => match d with
  | .bl c => Q (.bl (!c)) M1
  | _ => False) := fun r M Q => propext Iff.rfl
theorem e_gIf (t : GT) (ga gb : GE) : ∀ r M Q, gIf t ga gb r M Q = (t r M fun c M1 => if c = true then ga r M1 Q else gb r M1 Q) := fun r M Q => propext Iff.rfl
theorem e_DL_gCons (ge : GE) (ga : GA) : ∀ r M Q, DL.gCons ge ga r M Q = (ge r M fun d M1 => ga r M1 fun ds M2 => Q (d :: ds) M2) := fun r M Q => propext Iff.rfl
theorem e_DL_gNil : ∀ u0 M Q, DL.gNil u0 M Q = (Q [] M) := fun u0 M Q => propext Iff.rfl
theorem e_DL_gTup (gs : GA) : ∀ r M Q, DL.gTup gs r M Q = (gs r M fun ds M1 => Q (.tup ds) M1) := fun r M Q => propext Iff.rfl
theorem e_DL_gLst (gs : GA) : ∀ r M Q, DL.gLst gs r M Q = (gs r M fun ds M1 => Q (.lst ds) M1) := fun r M Q => propext Iff.rfl
theorem e_gFl (gs : GA) : ∀ r M Q, gFl gs r M Q = (gs r M fun ds M1 => Q (.lst ds) M1) := fun r M Q => propext Iff.rfl
theorem e_gFd (gf : GF) : ∀ r M Q, gFd gf r M Q = (gf r M fun m M1 => match m with
  | .lst ds => Q (.lst ds) M1
  | .dic _ => False) := fun r M Q => propext Iff.rfl
theorem e_gCa (gc : GC) (gs : GA) : ∀ r M Q, gCa gc gs r M Q = (gs r M fun ds M1 => gc ds M1 Q) := fun r M Q => propext Iff.rfl
theorem e_gLenS (i : Nat) : ∀ r M Q, gLenS i r M Q = (match r.sl[i]? with
  | some (.s ns) => Q (.int ns.length) M
  | _ => False) := fun r M Q => propext Iff.rfl
theorem e_gPart (g : GE) : ∀ r M Q, gPart g r M Q = (g r M fun d M1 => match d with
  | .int i => Q (some i) M1
  | _ => False) := fun r M Q => propext Iff.rfl
theorem e_gNoP : ∀ u0 M Q, gNoP u0 M Q = (Q none M) := fun u0 M Q => propext Iff.rfl
theorem e_gDisp (gp : GPs) : ∀ r M Q, gDisp gp r M Q = (gp r M fun kds M1 => Q (.dic (mergeD [] kds)) M1) := fun r M Q => propext Iff.rfl
theorem e_gPcons (x : Str) (g : GE) (gs : GPs) : ∀ r M Q, gPcons x g gs r M Q = (g r M fun d M1 => gs r M1 fun kds M2 => Q ((.inr x, d) :: kds) M2) := fun r M Q => propext Iff.rfl
theorem e_gPnil : ∀ r M Q, gPnil r M Q = (Q [] M) := fun r M Q => propext Iff.rfl
theorem e_gtN (i : Nat) : ∀ d r M Q, gtN i d r M Q = (Q (r.set i (.v d)) M) := fun d r M Q => propext Iff.rfl
theorem e_gtTup (gts : GGs) (n : Nat) : ∀ d r M Q, gtTup gts n d r M Q = (match d with
  | .tup ds => ds.length = n ∧ gts ds r M Q
  | _ => False) := fun d r M Q => propext Iff.rfl
theorem e_gtCons (g : GG) (gs : GGs) : ∀ ds r M Q, gtCons g gs ds r M Q = (match ds with
  | d :: r' => g d r M fun r1 M1 => gs r' r1 M1 Q
  | [] => False) := fun ds r M Q => propext Iff.rfl
theorem e_gtNil : ∀ ds r M Q, gtNil ds r M Q = (ds = [] ∧ Q r M) := fun ds r M Q => propext Iff.rfl
theorem e_gYes : ∀ u0 M Q, gYes u0 M Q = (Q true M) := fun u0 M Q => propext Iff.rfl
theorem e_gFor (gi : GI) (gt : GG) (gb : GS) : ∀ D r M, gFor gi gt gb D r M = (gi r M fun ds M1 => loopD gt gb ds D r M1) := fun D r M => propext Iff.rfl
theorem e_gLc (gi : GI) (gt : GG) (gtt : GT) (ge : GE) (vs : List Nat) : ∀ r M Q, gLc gi gt gtt ge vs r M Q = (noOwn r vs = true ∧ gi r M fun ds M1 => lcD gt gtt ge (wipeF r vs) ds [] M1 fun acc M2 => Q (.lst acc) M2) := fun r M Q => propext Iff.rfl
theorem e_giS (i : Nat) : ∀ r M Q, giS i r M Q = (match r.sl[i]? with
  | some (.s ns) => Q (ns.map D.int) M
  | _ => False) := fun r M Q => propext Iff.rfl
theorem e_gCallP (fs : FS) (gs : GA) : ∀ r M Q, gCallP fs gs r M Q = (gs r M fun ds M1 => fs ds M0 (fun d _ => Q d M1) fun C _ => r.ex C M1) := fun r M Q => propext Iff.rfl
theorem e_gCallM (fs : FS) (gs : GA) : ∀ r M Q, gCallM fs gs r M Q = (gs r M fun ds M1 => fs ds M1 Q r.ex) := fun r M Q => propext Iff.rfl
theorem e_gScr (i : Nat) : ∀ r M Q, gScr i r M Q = (match r.sl[i]? with
  | some (.s ns) => Q [.lst (ns.map D.int)] M
  | _ => False) := fun r M Q => propext Iff.rfl
theorem e_gIdx (ga gb : GE) : ∀ r M Q, gIdx ga gb r M Q = (ga r M fun d M1 => match d with
  | .lst ds => gb r M1 fun e M2 => (D.ok (.lst ds) = true ∧ e.ok = true) ∧ (match ixD ds e 0 with
    | some j => Q (.int (j : Nat)) M2
    | none => False)
  | .tup ds => gb r M1 fun e M2 => ixT ds e fun j => Q (.int (j : Nat)) M2
  | _ => False) := fun r M Q => propext Iff.rfl
theorem e_goAdd_int : type_of% @goAdd_int := by intros; exact propext (Iff.of_eq goAdd_int)
theorem e_goAdd_str : type_of% @goAdd_str := by intros; exact propext (Iff.of_eq goAdd_str)
theorem e_goAdd_tup : type_of% @goAdd_tup := by intros; exact propext (Iff.of_eq goAdd_tup)
theorem e_goAdd_lst : type_of% @goAdd_lst := by intros; exact propext (Iff.of_eq goAdd_lst)
theorem e_goAddW_int : type_of% @goAddW_int := by intros; exact propext (Iff.of_eq goAddW_int)
theorem e_goAddW_lst : type_of% @goAddW_lst := by intros; exact propext (Iff.of_eq goAddW_lst)
theorem e_goPlus_int : type_of% @goPlus_int := by intros; exact propext (Iff.of_eq goPlus_int)
theorem e_goI_int : type_of% @goI_int := by intros; exact propext (Iff.of_eq goI_int)
theorem e_guI_int : type_of% @guI_int := by intros; exact propext (Iff.of_eq guI_int)
theorem e_gcI1_int : type_of% @gcI1_int := by intros; exact propext (Iff.of_eq gcI1_int)
theorem e_goIx_lst : type_of% @goIx_lst := by intros; exact propext (Iff.of_eq goIx_lst)
theorem e_gcLen_lst : type_of% @gcLen_lst := by intros; exact propext (Iff.of_eq gcLen_lst)
theorem e_gcTupleS_lst : type_of% @gcTupleS_lst := by intros; exact propext (Iff.of_eq gcTupleS_lst)
theorem e_gcList_lst : type_of% @gcList_lst := by intros; exact propext (Iff.of_eq gcList_lst)
theorem e_goRevA_lst : type_of% @goRevA_lst := by intros; exact propext (Iff.of_eq goRevA_lst)
theorem e_goIx_tup : type_of% @goIx_tup := by intros; exact propext (Iff.of_eq goIx_tup)
theorem e_gcLen_tup : type_of% @gcLen_tup := by intros; exact propext (Iff.of_eq gcLen_tup)
theorem e_gcTupleS_tup : type_of% @gcTupleS_tup := by intros; exact propext (Iff.of_eq gcTupleS_tup)
theorem e_gcList_tup : type_of% @gcList_tup := by intros; exact propext (Iff.of_eq gcList_tup)
theorem e_goRevA_tup : type_of% @goRevA_tup := by intros; exact propext (Iff.of_eq goRevA_tup)
theorem e_gcTuple_lst : type_of% @gcTuple_lst := by intros; exact propext (Iff.of_eq gcTuple_lst)
theorem e_goIx_str : type_of% @goIx_str := by intros; exact propext (Iff.of_eq goIx_str)
theorem e_gcLen_str : type_of% @gcLen_str := by intros; exact propext (Iff.of_eq gcLen_str)
theorem e_gcInt_int : type_of% @gcInt_int := by intros; exact propext (Iff.of_eq gcInt_int)
theorem e_gcInt_bl : type_of% @gcInt_bl := by intros; exact propext (Iff.of_eq gcInt_bl)
theorem e_goMulT_tup : type_of% @goMulT_tup := by intros; exact propext (Iff.of_eq goMulT_tup)
theorem e_goMulL_lst : type_of% @goMulL_lst := by intros; exact propext (Iff.of_eq goMulL_lst)
theorem e_goIsB_bl : type_of% @goIsB_bl := by intros; exact propext (Iff.of_eq goIsB_bl)
theorem e_goIsN_non : type_of% @goIsN_non := by intros; exact propext (Iff.of_eq goIsN_non)
theorem e_truK_non : type_of% @truK_non := by intros; exact propext (Iff.of_eq truK_non)
theorem e_truK_bl : type_of% @truK_bl := by intros; exact propext (Iff.of_eq truK_bl)
theorem e_truK_int : type_of% @truK_int := by intros; exact propext (Iff.of_eq truK_int)
theorem e_truK_lst : type_of% @truK_lst := by intros; exact propext (Iff.of_eq truK_lst)
theorem e_truK_tup : type_of% @truK_tup := by intros; exact propext (Iff.of_eq truK_tup)
theorem e_truK_str : type_of% @truK_str := by intros; exact propext (Iff.of_eq truK_str)
theorem e_lstK_lst : type_of% @lstK_lst := by intros; exact propext (Iff.of_eq lstK_lst)
theorem e_lstK_tup : type_of% @lstK_tup := by intros; exact propext (Iff.of_eq lstK_tup)
theorem e_slK_lst : type_of% @slK_lst := by intros; exact propext (Iff.of_eq slK_lst)
theorem e_slK_str : type_of% @slK_str := by intros; exact propext (Iff.of_eq slK_str)
theorem e_itsK_lst : type_of% @itsK_lst := by intros; exact propext (Iff.of_eq itsK_lst)
theorem e_itsK_tup : type_of% @itsK_tup := by intros; exact propext (Iff.of_eq itsK_tup)
theorem e_zipK_lst : type_of% @zipK_lst := by intros; exact propext (Iff.of_eq zipK_lst)
theorem e_zipK_tup : type_of% @zipK_tup := by intros; exact propext (Iff.of_eq zipK_tup)
theorem e_ran1K_int : type_of% @ran1K_int := by intros; exact propext (Iff.of_eq ran1K_int)
theorem e_ran2K_int : type_of% @ran2K_int := by intros; exact propext (Iff.of_eq ran2K_int)
theorem e_goLtA_int : type_of% @goLtA_int := by intros; exact propext (Iff.of_eq goLtA_int)
theorem e_goEq_int : type_of% @goEq_int := by intros; exact propext (Iff.of_eq goEq_int)
theorem e_goNe_int : type_of% @goNe_int := by intros; exact propext (Iff.of_eq goNe_int)
theorem e_goEq_bl : type_of% @goEq_bl := by intros; exact propext (Iff.of_eq goEq_bl)
theorem e_goNe_bl : type_of% @goNe_bl := by intros; exact propext (Iff.of_eq goNe_bl)
theorem e_goEq_str : type_of% @goEq_str := by intros; exact propext (Iff.of_eq goEq_str)
theorem e_goNe_str : type_of% @goNe_str := by intros; exact propext (Iff.of_eq goNe_str)
theorem e_goEq_tup : type_of% @goEq_tup := by intros; exact propext (Iff.of_eq goEq_tup)
theorem e_goNe_tup : type_of% @goNe_tup := by intros; exact propext (Iff.of_eq goNe_tup)
theorem e_goEq_lst : type_of% @goEq_lst := by intros; exact propext (Iff.of_eq goEq_lst)
theorem e_goNe_lst : type_of% @goNe_lst := by intros; exact propext (Iff.of_eq goNe_lst)
theorem e_goEq_non : type_of% @goEq_non := by intros; exact propext (Iff.of_eq goEq_non)
theorem e_goNe_non : type_of% @goNe_non := by intros; exact propext (Iff.of_eq goNe_non)
theorem e_gAndV_k : type_of% @gAndV_k := by intros; exact propext (Iff.of_eq gAndV_k)
theorem e_gOrV_k : type_of% @gOrV_k := by intros; exact propext (Iff.of_eq gOrV_k)
theorem e_gCh_k : type_of% @gCh_k := by intros; exact propext (Iff.of_eq gCh_k)
theorem e_gFld (K : PySem.W.Frag) (f : PySem.Str) (ga : GE) : ∀ r M Q, gFld K f ga r M Q = (ga r M fun d M1 => fldK K f d M1 Q) := fun r M Q => propext Iff.rfl
theorem e_fldK_ref : type_of% @fldK_ref := by intros; exact propext (Iff.of_eq fldK_ref)
theorem e_gPutF (K : PySem.W.Frag) (f : PySem.Str) (ga ge : GE) : ∀ D r M, gPutF K f ga ge D r M = (ge r M fun z M1 => ga r M1 fun d M2 => putFK K f z d M2 fun M3 => D.nx r M3) := fun D r M => propext Iff.rfl
theorem e_gPutFM (K : PySem.W.Frag) (f : PySem.Str) (ga : GE) (gf : GF) : ∀ D r M, gPutFM K f ga gf D r M = (gf r M fun m M1 => ∀ l, M1 l = none → ga r (mup M1 l (.om m)) fun d M2 => putFK K f (.ref l) d M2 fun M3 => D.nx r M3) := fun D r M => propext Iff.rfl
theorem e_putFK_ref : type_of% @putFK_ref := by intros; exact propext (Iff.of_eq putFK_ref)
theorem e_gDrf (ga : GE) : ∀ r M Q, gDrf ga r M Q = (ga r M fun d M1 => drfK d M1 Q) := fun r M Q => propext Iff.rfl
theorem e_drfK_ref : type_of% @drfK_ref := by intros; exact propext (Iff.of_eq drfK_ref)
theorem e_gMApp (go ge : GE) : ∀ D r M, gMApp go ge D r M = (go r M fun d M1 => mlK d M1 fun l _ => ge r M1 fun z M2 => mlK (.ref l) M2 fun l ds => ds.length < sizeLine ∧ D.nx r (mup M2 l (.om (.lst (ds ++ [z]))))) := fun D r M => propext Iff.rfl
theorem e_mlK_ref : type_of% @mlK_ref := by intros; exact propext (Iff.of_eq mlK_ref)
theorem e_gMPop (go ge : GE) : ∀ r M Q, gMPop go ge r M Q = (go r M fun d M1 => mlK d M1 fun l _ => ge r M1 fun z M2 => mlK (.ref l) M2 fun l ds => popK z ds fun y ds' => Q y (mup M2 l (.om (.lst ds')))) := fun r M Q => propext Iff.rfl
theorem e_popK_int : type_of% @popK_int := by intros; exact propext (Iff.of_eq popK_int)
theorem e_gMIns (go : GE) (gs : GA) : ∀ D r M, gMIns go gs D r M = (go r M fun d M1 => mlK d M1 fun l _ => gs r M1 fun zs M2 => mlK (.ref l) M2 fun l ds => ins2K zs ds fun ds' => D.nx r (mup M2 l (.om (.lst ds')))) := fun D r M => propext Iff.rfl
theorem e_gMeth (m : PySem.Str) (tbl : List (Addr × FS)) (go : GE) (gs : GA) : ∀ r M Q, gMeth m tbl go gs r M Q = (go r M fun d M1 => mthK m tbl d M1 fun a fs => gs r M1 fun ds M2 => fs (.ref a :: ds) M2 Q r.ex) := fun r M Q => propext Iff.rfl
theorem e_mthK_ref : type_of% @mthK_ref := by intros; exact propext (Iff.of_eq mthK_ref)
theorem e_gMake (C : Addr) (Fk : Prop) (fs : FS) (gs : GA) : ∀ r M Q, gMake C Fk fs gs r M Q = (gs r M fun ds M1 => Fk → ∀ x, M1 x = none → fs (.ref x :: ds) (mup M1 x (.ins C [])) (fun d M2 => d = .non ∧ Q (.ref x) M2) r.ex) := fun r M Q => propext Iff.rfl
theorem e_giR3 (gs : GA) : ∀ r M Q, giR3 gs r M Q = (gs r M fun ds M1 => match ds with
  | [.int i, .int j, .int c] => ∃ n, RgC i j c n ∧ Q (rngC i c n) M1
  | _ => False) := fun r M Q => propext Iff.rfl
theorem e_gFlR1 (ga : GE) : ∀ r M Q, gFlR1 ga r M Q = (ga r M fun y M1 => rg2K (.int 0) y fun ds => Q (.lst ds) M1) := fun r M Q => propext Iff.rfl
theorem e_gFlR2 (ga gb : GE) : ∀ r M Q, gFlR2 ga gb r M Q = (ga r M fun x M1 => gb r M1 fun y M2 => rg2K x y fun ds => Q (.lst ds) M2) := fun r M Q => propext Iff.rfl
theorem e_rg2K_int : type_of% @rg2K_int := by intros; exact propext (Iff.of_eq rg2K_int)
theorem e_gLenSet (ga : GE) : ∀ r M Q, gLenSet ga r M Q = (ga r M fun x M1 => lenSetK x fun d => Q d M1) := fun r M Q => propext Iff.rfl
theorem e_gMinD (ga gb : GE) : ∀ r M Q, gMinD ga gb r M Q = (ga r M fun x M1 => gb r M1 fun y M2 => minDK x y fun d => Q d M2) := fun r M Q => propext Iff.rfl
theorem e_giMem (go : GE) : ∀ r M Q, giMem go r M Q = (go r M fun d M1 => mlK d M1 fun _ ds => Q ds M1) := fun r M Q => propext Iff.rfl
theorem e_giBA (i : Nat) : ∀ r M Q, giBA i r M Q = (match r.sl[i]? with
  | some (.b _ ds) => Q ds M
  | some (.v (.lst ds)) => Q ds M
  | some (.v (.tup ds)) => Q ds M
  | _ => False) := fun r M Q => propext Iff.rfl
theorem e_gMIdx (go ge : GE) : ∀ r M Q, gMIdx go ge r M Q = (go r M fun d M1 => mlK d M1 fun l _ => ge r M1 fun z M2 => mlK (.ref l) M2 fun _ ds => ixM ds z fun j => Q (.int (j : Nat)) M2) := fun r M Q => propext Iff.rfl
theorem e_goTab (a : Addr) (ks : List Str) (neg : Bool) : ∀ d e M Q, goTab a ks neg d e M Q = (match d, e with
  | .str z, .ref b => b = a ∧ Q (.bl (if neg = true then !decide (z ∈ ks) else decide (z ∈ ks))) M
  | _, _ => False) := fun d e M Q => propext Iff.rfl
theorem e_gFsort (ga : GE) : ∀ r M Q, gFsort ga r M Q = (ga r M fun d M1 => sortK d fun ds => Q (.lst ds) M1) := fun r M Q => propext Iff.rfl
theorem e_gStep (ga gb : GE) : ∀ r M Q, gStep ga gb r M Q = (ga r M fun d M1 => gb r M1 fun e M2 => stepK d e M2 Q) := fun r M Q => propext Iff.rfl
theorem e_stepK_lst : type_of% @stepK_lst := by intros; exact propext (Iff.of_eq stepK_lst)
theorem e_gAppM (i : Nat) (gf : GF) : ∀ D r M, gAppM i gf D r M = (match r.sl[i]? with
  | some (.o (.lst ds)) => gf r M fun m M1 => ds.length < sizeLine ∧ ∀ a, M1 a = none → D.nx (r.set i (.o (.lst (ds ++ [.ref a])))) (mup M1 a (.om m))
  | _ => False) := fun D r M => propext Iff.rfl
theorem e_gDictV (ga : GE) : ∀ r M Q, gDictV ga r M Q = (ga r M fun d M1 => dictK d fun kds => Q (.dic kds) M1) := fun r M Q => propext Iff.rfl
theorem e_gFdict (ga : GE) : ∀ r M Q, gFdict ga r M Q = (ga r M fun d M1 => dictK d fun kds => Q (.dic kds) M1) := fun r M Q => propext Iff.rfl
theorem e_dictK_lst : type_of% @dictK_lst := by intros; exact propext (Iff.of_eq dictK_lst)
theorem e_dictK_tup : type_of% @dictK_tup := by intros; exact propext (Iff.of_eq dictK_tup)
theorem e_dictK_dic : type_of% @dictK_dic := by intros; exact propext (Iff.of_eq dictK_dic)
theorem e_gDic0 : ∀ u0 M Q, gDic0 u0 M Q = (Q (.dic []) M) := fun u0 M Q => propext Iff.rfl
theorem e_gFdic0 : ∀ u0 M Q, gFdic0 u0 M Q = (Q (.dic []) M) := fun u0 M Q => propext Iff.rfl
theorem e_gDGet1 (go ge : GE) : ∀ r M Q, gDGet1 go ge r M Q = (go r M fun d M1 => dicK d fun kds => ge r M1 fun e M2 => getK kds e .non fun z => Q z M2) := fun r M Q => propext Iff.rfl
theorem e_gDGet2 (go ge gz : GE) : ∀ r M Q, gDGet2 go ge gz r M Q = (go r M fun d M1 => dicK d fun kds => ge r M1 fun e M2 => gz r M2 fun z M3 => getK kds e z fun z => Q z M3) := fun r M Q => propext Iff.rfl
theorem e_dicK_dic : type_of% @dicK_dic := by intros; exact propext (Iff.of_eq dicK_dic)
theorem e_gOPut (i : Nat) (ge gv : GE) : ∀ D r M, gOPut i ge gv D r M = (match r.sl[i]? with
  | some (.o (.dic kds)) => gv r M fun v M1 => ge r M1 fun e M2 => ∃ k, keyD e = some k ∧ kds.length < sizeLine ∧ D.nx (r.set i (.o (.dic (putD kds k v)))) M2
  | _ => False) := fun D r M => propext Iff.rfl
theorem e_gOPop (i : Nat) (ge gz : GE) : ∀ D r M, gOPop i ge gz D r M = (match r.sl[i]? with
  | some (.o (.dic kds)) => ge r M fun e M1 => gz r M1 fun z M2 => ∃ k, keyD e = some k ∧ D.nx (r.set i (.o (.dic (dropD kds k)))) M2
  | _ => False) := fun D r M => propext Iff.rfl
theorem e_giKeys (ga : GE) : ∀ r M Q, giKeys ga r M Q = (ga r M fun d M1 => dicK d fun kds => Q (kds.map fun kv => kD kv.1) M1) := fun r M Q => propext Iff.rfl
theorem e_gPconsI (x : Int) (g : GE) (gs : GPs) : ∀ r M Q, gPconsI x g gs r M Q = (g r M fun d M1 => gs r M1 fun kds M2 => Q ((.inl x, d) :: kds) M2) := fun r M Q => propext Iff.rfl
theorem e_gDispV (gp : GPs) : ∀ r M Q, gDispV gp r M Q = (gp r M fun kds M1 => Q (.dic (mergeD [] kds)) M1) := fun r M Q => propext Iff.rfl
theorem e_goIx_dic : type_of% @goIx_dic := by intros; exact propext (Iff.of_eq goIx_dic)
theorem e_gcLen_dic : type_of% @gcLen_dic := by intros; exact propext (Iff.of_eq gcLen_dic)
theorem e_lstK_dic : type_of% @lstK_dic := by intros; exact propext (Iff.of_eq lstK_dic)
theorem e_truK_dic : type_of% @truK_dic := by intros; exact propext (Iff.of_eq truK_dic)
theorem e_gOIns (i : Nat) (gs : GA) : ∀ D r M, gOIns i gs D r M = (match r.sl[i]? with
  | some (.o (.lst ds)) => gs r M fun zs M1 => ins2K zs ds fun ds' => D.nx (r.set i (.o (.lst ds'))) M1
  | _ => False) := fun D r M => propext Iff.rfl
theorem e_gCallL (P : Addr) (q : Str) (fs : LmT → FS) (gb : GE) (gs : GA) : ∀ r M Q, gCallL P q fs gb gs r M Q = (M P = some (.tab q) ∧ gs r M fun ds M1 => fs (gLamT gb r) ds M1 Q r.ex) := fun r M Q => propext Iff.rfl
theorem e_gAct (i : Nat) (lm : Lm) : ∀ r M Q, gAct i lm r M Q = (r.sl[i]? = some (.f lm) ∧ lm.tl M Q r.ex) := fun r M Q => propext Iff.rfl
theorem e_gxAct (i : Nat) (lm : Lm) : ∀ r M Q Xc, gxAct i lm r M Q Xc = (r.sl[i]? = some (.f lm) ∧ lm.tl M Q Xc) := fun r M Q Xc => propext Iff.rfl
theorem e_gxV (i : Nat) (tbl : List (Addr × FS)) (gs : GA) : ∀ r M Q Xc, gxV i tbl gs r M Q Xc = (∃ f fs, r.sl[i]? = some (.v (.ref f)) ∧ (f, fs) ∈ tbl ∧ gs r M fun ds M1 => fs ds M0 (fun d _ => Q d M1) fun C _ => Xc C M1) := fun r M Q Xc => propext Iff.rfl
theorem e_gItemsT (ga : GE) : ∀ r M Q, gItemsT ga r M Q = (ga r M fun d M1 => dicK d fun kds => Q (.tup (kds.map kvD)) M1) := fun r M Q => propext Iff.rfl
theorem e_gFvals (ga : GE) : ∀ r M Q, gFvals ga r M Q = (ga r M fun d M1 => dicK d fun kds => Q (.lst (kds.map Prod.snd)) M1) := fun r M Q => propext Iff.rfl
theorem e_giItems (ga : GE) : ∀ r M Q, giItems ga r M Q = (ga r M fun d M1 => dicK d fun kds => Q (kds.map kvD) M1) := fun r M Q => propext Iff.rfl
theorem e_gFsortD (ga : GE) : ∀ r M Q, gFsortD ga r M Q = (ga r M fun d M1 => sortDK d fun ds => Q (.lst ds) M1) := fun r M Q => propext Iff.rfl
theorem e_sortDK_dic : type_of% @sortDK_dic := by intros; exact propext (Iff.of_eq sortDK_dic)
end DL
set_option Elab.async false
set_option linter.all false
set_option maxRecDepth 100000
set_option maxHeartbeats 2000000
namespace DL
open PySem PySem.Spec PySem.W PyProof.Rows L2
section
variable {X : Cx}
def rEqE (K : PySem.W.Frag) (c : Bool) : R2 := fun x y H Q => ∃ (a b : Addr) (xs : List V), x = .ref a ∧ y = .ref b ∧ ((SqL K H a xs ∧ SqL K H b []) ∨ (SqT K H a xs ∧ SqT K H b [])) ∧ Q (.bl (xor c xs.isEmpty)) H
theorem emptyV {us : List Value} (h : Vals [] us) : us = [] := by cases h; rfl
theorem op_eqE (hu : X.A.units < cLine) : OpR X (compareOp .Eq) (rEqE X.K false) := by
  intro pins s σ H x y v u Q I rx ry ⟨a, b, xs, ex, ey, h, q⟩
  subst ex ey
  cases rx
  cases ry
  have fin : ∀ (its : List Value), Vals xs its → EP X pins σ Q (.bool its.isEmpty) s := fun its rv => ⟨.bl xs.isEmpty, H, I, by cases rv <;> rfl, by rw [Bool.false_xor] at q; exact q⟩
  rcases h with ⟨h1, h2⟩ | ⟨h1, h2⟩
  · obtain ⟨its, rv, p1, _⟩ := I.list h1
    obtain ⟨its2, rv2, p2, _⟩ := I.list h2
    obtain rfl := emptyV rv2
    cases its with
    | nil => exact SeqAt.eq_listAt p1.isList p2.isList rfl hu (e := fun _ => true) (fun j h1 => by simp at h1) (fin [] rv)
    | cons z its => exact SeqAt.eq_list_lengthsAt p1.isList p2.isList (by simp) hu (fin (z :: its) rv)
  · obtain ⟨its, rv, p1, _⟩ := I.tuple h1
    obtain ⟨its2, rv2, p2, _⟩ := I.tuple h2
    obtain rfl := emptyV rv2
    refine SeqAt.eq_tupleAt p1 p2 hu (e := fun _ => true) (fun j h1 h2 => by simp at h2) ?_
    have := fin its rv
    cases its with
    | nil => exact this
    | cons z its => simpa using this
theorem op_neE (hu : X.A.units < cLine) : OpR X (compareOp .NotEq) (rEqE X.K true) := by
  intro pins s σ H x y v u Q I rx ry ⟨a, b, xs, ex, ey, h, q⟩
  subst ex ey
  cases rx
  cases ry
  have fin : ∀ (its : List Value), Vals xs its → EP X pins σ Q (.bool (!its.isEmpty)) s := fun its rv => ⟨.bl (!xs.isEmpty), H, I, by cases rv <;> rfl, by rw [Bool.true_xor] at q; exact q⟩
  rcases h with ⟨h1, h2⟩ | ⟨h1, h2⟩
  · obtain ⟨its, rv, p1, _⟩ := I.list h1
    obtain ⟨its2, rv2, p2, _⟩ := I.list h2
    obtain rfl := emptyV rv2
    cases its with
    | nil => exact SeqAt.RcNeAt.lists p1.isList p2.isList rfl hu (e := fun _ => true) (fun j h1 => by simp at h1) _ _ _ _ (fin [] rv)
    | cons z its => exact SeqAt.RcNeAt.lists_lengths p1.isList p2.isList (by simp) hu _ _ _ _ (fin (z :: its) rv)
  · obtain ⟨its, rv, p1, _⟩ := I.tuple h1
    obtain ⟨its2, rv2, p2, _⟩ := I.tuple h2
    obtain rfl := emptyV rv2
    refine SeqAt.RcNeAt.tuples p1 p2 hu (e := fun _ => true) (fun j h1 h2 => by simp at h2) _ _ _ _ ?_
    have := fin its rv
    cases its with
    | nil => exact this
    | cons z its => simpa using this
end
/-- ==, an empty list or tuple behind it -/
def goEqE (c : Bool) : GO := fun d e M Q => match d, e with
  | .lst xs, .lst [] => Q (.bl (xor c xs.isEmpty)) M
  | .tup xs, .tup [] => Q (.bl (xor c xs.isEmpty)) M
  | _, _ => False
theorem goEqE_lst {c : Bool} {xs : List D} {M : Mem} {Q : D → Mem → Prop} : goEqE c (.lst xs) (.lst []) M Q = Q (.bl (xor c xs.isEmpty)) M := propext Iff.rfl
theorem goEqE_tup {c : Bool} {xs : List D} {M : Mem} {Q : D → Mem → Prop} : goEqE c (.tup xs) (.tup []) M Q = Q (.bl (xor c xs.isEmpty)) M := propext Iff.rfl
theorem goEqE_mono {c : Bool} : ∀ d e M Q Q', (∀ d M', Q d M' → Q' d M') → goEqE c d e M Q → goEqE c d e M Q' := fun d e M Q Q' h q => by
  unfold goEqE at q ⊢
  split at q
  · exact h _ _ q
  · exact h _ _ q
  · exact q
theorem emptyL {K : PySem.W.Frag} {A : Addr → Prop} {H : Hp} {vs : List V} (l : IsL K A H vs []) : vs = [] := by cases l; rfl
theorem rEqE_of {X : Cx} {c : Bool} {B : Addr → Prop} {E : En} {σ : L2.St} {H : Hp} {r : DL.Fr} {M : Mem} {O : Own} {x y : V} {d e : D} {Q : VK} {w p : Bool} {H0 : Hp} {M0 : Mem} {O0 : Own} (R : Rep X B E σ H r M O) (i1 : Is1 X.K (Av B M O) H x d) (i2 : Is1 X.K (Av B M O) H y e) (q : goEqE c d e M (LE w p X B E σ r H M O Q)) : rEqE X.K c x y H Q := by
  unfold goEqE at q
  split at q
  · obtain ⟨a, vs, rfl, h1, l1⟩ := i1
    obtain ⟨b, us, rfl, h2, l2⟩ := i2
    obtain rfl := emptyL l2
    exact ⟨a, b, vs, rfl, rfl, .inl ⟨SqL.of h1, SqL.of h2⟩, by rw [l1.empty]; exact fin_v R (.bl _) q⟩
  · obtain ⟨a, vs, rfl, h1, l1⟩ := i1
    obtain ⟨b, us, rfl, h2, l2⟩ := i2
    obtain rfl := emptyL l2
    exact ⟨a, b, vs, rfl, rfl, .inr ⟨h1, h2⟩, by rw [l1.empty]; exact fin_v R (.bl _) q⟩
  · exact q.elim
theorem od_eqE {X : Cx} (hu : X.A.units + 64 < cLine) : OpD X (compareOp .Eq) (goEqE false) where
  ex := ⟨_, op_eqE (by omega), fun B E σ H r M O x y d e Q R i1 i2 q => rEqE_of (H0 := H) (M0 := M) (O0 := O) R i1 i2 q⟩
  mono := goEqE_mono
theorem od_neE {X : Cx} (hu : X.A.units + 64 < cLine) : OpD X (compareOp .NotEq) (goEqE true) where
  ex := ⟨_, op_neE (by omega), fun B E σ H r M O x y d e Q R i1 i2 q => rEqE_of (H0 := H) (M0 := M) (O0 := O) R i1 i2 q⟩
  mono := goEqE_mono
end DL
set_option Elab.async false
set_option linter.all false
set_option maxRecDepth 100000
set_option maxHeartbeats 2000000
namespace DL
open PySem PySem.Spec PySem.W PyProof.Rows L2
def keyP : Key → PyData
  | .inl i => .int i
  | .inr x => .str x
mutual
def D.pyA : D → PyData
  | .non => .none
  | .bl b => .bool b
  | .int i => .int i
  | .str x => .str x
  | .tup xs => .tuple (D.pyAL xs)
  | .lst xs => .list (D.pyAL xs)
  | .dic kds => .dict (D.pyAK kds)
  | _ => .none
def D.pyAL : List D → List PyData
  | [] => []
  | d :: r => d.pyA :: D.pyAL r
def D.pyAK : List (Key × D) → List (PyData × PyData)
  | [] => []
  | (k, d) :: r => (keyP k, d.pyA) :: D.pyAK r
end
/-- what repr and str may be asked of -/
structure Rp (k n : Nat) (d : D) : Prop where
  da : d.da = true
  sh : d.pyA.showable = true
  dep : d.pyA.depth ≤ k
  len : d.pyA.shown.length ≤ n
def gcReprA : GC := fun ds M Q => match ds with
  | [d] => Rp 60 16000000 d ∧ Q (.str d.pyA.shown) M
  | _ => False
theorem gcReprA_1 {d : D} {M : Mem} {Q : D → Mem → Prop} : gcReprA [d] M Q = (Rp 60 16000000 d ∧ Q (.str d.pyA.shown) M) := propext Iff.rfl
/-- what str writes -/
def strT : D → PySem.Str
  | .str x => x
  | d => d.pyA.shown
def gcStrA : GC := fun ds M Q => match ds with
  | [d] => Rp 60 16000000 d ∧ Q (.str (strT d)) M
  | _ => False
theorem gcStrA_1 {d : D} {M : Mem} {Q : D → Mem → Prop} : gcStrA [d] M Q = (Rp 60 16000000 d ∧ Q (.str (strT d)) M) := propext Iff.rfl
end DL
set_option Elab.async false
set_option linter.all false
set_option maxRecDepth 100000
set_option maxHeartbeats 2000000
namespace DL
open PySem PySem.Spec PySem.W PyProof.Rows L2 LamX
/-- a def that calls itself, by the depth of its calls -/
theorem Wor.rec_ {fa : List He.Fa} {fn : List He.DefD} {K : PySem.W.Frag} {mg : Str → Option Value} {P : Program} {w : World} {base : Heap} {L : Nat} {ks : List AK} {fs : Nat → FS} {N ps : List Str} {g : Nat → GS} (W : Wor fa fn K mg) (i : Nat) {x : Str} {st : Stmt}
    (S : FnScope N ps (defScope st)) (h : fn[i]? = some ⟨(x, none), x, x, defArgs st, defBody st, defScope st, [], []⟩ := by rfl) (h2 : fa[i]? = some (.glo x) := by rfl) (hk : ks.length = ps.length := by rfl)
    (hbd : ∀ (kV doc pm : Value) (an : Option Addr) (cdv ct : Value) (us : List Value), us.length = ps.length → bindArgs (PySem.W.fnOf x x (defArgs st) (defBody st) (defScope st) .none kV doc pm an cdv ct) ⟨us, []⟩ = pure (ps.zip us))
    (hmo : ∀ k, MonoF (fs k)) (hno : ∀ ds M Q X, fs 0 ds M Q X → False)
    (hbody : ∀ (k : Nat), Def P w K mg base (L + k) x ps ks (fs k) → ∀ (f : Addr) (cdv : Value) (A : Around) (outer : List Env) (s : Shared) (H : Hp) (E : XK), Room (L + k) (A.deeper (envOfC x (defScope st) s.heap.objs.size f cdv)) → A.guards = some [] →
      DSs (cxOf (L2.CX P w) P w K mg base N x (defScope st) f cdv A outer s H E) (defBody st) (g k))
    (hfs : ∀ k ds M Q X, fs (k + 1) ds M Q X → ds.length = ks.length → g k { nx := fun _ M' => Q .non M', rt := Q } (entry N.length ks ds X) M) : ∀ k, Def P w K mg base (L + k) x ps ks (fs k) := by
  obtain ⟨fd, F⟩ := W.c.def_ i h
  have hx := W.glo i h2
  have F1 : Fun K x x st (He.ga K x) fd := He5.fun_of F
  intro k
  induction k with
  | zero =>
    have no : ∀ {vs H Q E}, toSp K ks (fs 0) vs H Q E → False := fun {vs H Q E} ⟨_, _, _, _, _, _, _, q⟩ => hno _ _ _ _ q
    exact ⟨⟨_, fd, ⟨fun vs H Q E q => (no q).elim, fun A outer s H args us vs Q E _ _ _ _ _ q => (no q).elim⟩, hx, F1.kp, F1.binds hbd⟩, hmo 0⟩
  | succ k ih => exact ⟨⟨_, fd, d_fn F1 S hk (hbody k ih (He.ga K x)) (hfs k), hx, F1.kp, F1.binds hbd⟩, hmo (k + 1)⟩
end DL
set_option Elab.async false
set_option linter.all false
set_option maxRecDepth 100000
set_option maxHeartbeats 2000000
namespace PySem.SeqAt
open AutoSeq1 (wpAny_loadPart')
open MeetsSeq
end PySem.SeqAt
namespace PySem.SeqAt
end PySem.SeqAt
namespace DL
open PySem PySem.Spec PySem.W PyProof.Rows L2
/-- the answer of d == j -/
def D.eqI (j : Int) : D → Bool
  | .int i => decide (i = j)
  | .bl b => decide ((if b then 1 else 0) = j)
  | _ => false
def D.isI : D → Bool
  | .ty _ => false
  | .ref _ => false
  | _ => true
/-- == an int behind it, whatever stands ahead -/
def goEqI : GO := fun d e M Q => match e with
  | .int j => d.isI = true ∧ Q (.bl (d.eqI j)) M
  | _ => False
theorem goEqI_x {d : D} {j : Int} {M : Mem} {Q : D → Mem → Prop} : goEqI d (.int j) M Q = (d.isI = true ∧ Q (.bl (d.eqI j)) M) := propext Iff.rfl
end DL
namespace DL
open PySem PySem.Spec PySem.W PyProof.Rows L2
def bI (b : Bool) : Int := if b = true then 1 else 0
/-- .. and what a rule of numbers served ahead -/
def goB (f : Int → Int → Int) (g : GO) : GO := fun d e M Q => match d, e with
  | .bl b, .int j => Q (.int (f (bI b) j)) M
  | .int i, .bl b => Q (.int (f i (bI b))) M
  | d, e => g d e M Q
def goAddB : GO := goB (· + ·) (goI (fun _ _ => True) fun i j => .int (i + j))
def goSubB : GO := goB (· - ·) (goI (fun _ _ => True) fun i j => .int (i - j))
def goMulB : GO := goB (· * ·) (goI CMul fun i j => .int (i * j))
section
variable {i j : Int} {b : Bool} {M : Mem} {Q : D → Mem → Prop}
theorem goAddB_ii : goAddB (.int i) (.int j) M Q = Q (.int (i + j)) M := propext ⟨fun h => h.2, fun h => ⟨trivial, h⟩⟩
theorem goAddB_bi : goAddB (.bl b) (.int j) M Q = Q (.int (bI b + j)) M := propext Iff.rfl
theorem goAddB_ib : goAddB (.int i) (.bl b) M Q = Q (.int (i + bI b)) M := propext Iff.rfl
theorem goSubB_ii : goSubB (.int i) (.int j) M Q = Q (.int (i - j)) M := propext ⟨fun h => h.2, fun h => ⟨trivial, h⟩⟩
theorem goSubB_bi : goSubB (.bl b) (.int j) M Q = Q (.int (bI b - j)) M := propext Iff.rfl
theorem goSubB_ib : goSubB (.int i) (.bl b) M Q = Q (.int (i - bI b)) M := propext Iff.rfl
theorem goMulB_ii : goMulB (.int i) (.int j) M Q = (CMul i j ∧ Q (.int (i * j)) M) := propext Iff.rfl
theorem goMulB_bi : goMulB (.bl b) (.int j) M Q = Q (.int (bI b * j)) M := propext Iff.rfl
theorem goMulB_ib : goMulB (.int i) (.bl b) M Q = Q (.int (i * bI b)) M := propext Iff.rfl
end
def guNegB : GU := fun d M Q => match d with
  | .int i => Q (.int (-i)) M
  | .bl b => Q (.int (-(bI b))) M
  | _ => False
theorem guNegB_i {i : Int} {M : Mem} {Q : D → Mem → Prop} : guNegB (.int i) M Q = Q (.int (-i)) M := propext Iff.rfl
theorem guNegB_b {b : Bool} {M : Mem} {Q : D → Mem → Prop} : guNegB (.bl b) M Q = Q (.int (-(bI b))) M := propext Iff.rfl
end DL
set_option Elab.async false
set_option linter.all false
set_option maxRecDepth 100000
set_option maxHeartbeats 2000000
namespace DL
open PySem PySem.Spec PySem.W PyProof.Rows L2
def repS (x : PySem.Str) (n : Int) : PySem.Str := ⟨(List.replicate n.toNat x.cps).foldl (· ++ ·) #[]⟩
def CMulS (x : PySem.Str) (n : Int) : Prop := 2 ≤ n ∧ n ≤ 1000000 ∧ 1 ≤ x.length ∧ x.length * n.toNat ≤ 1000000
def goMulS : GO := fun d e M Q => match d, e with
  | .str x, .int n => CMulS x n ∧ Q (.str (repS x n)) M
  | _, _ => False
theorem goMulS_x {x : PySem.Str} {n : Int} {M : Mem} {Q : D → Mem → Prop} : goMulS (.str x) (.int n) M Q = (CMulS x n ∧ Q (.str (repS x n)) M) := propext Iff.rfl
/-- int(text) -/
def gcIntS : GC := fun ds M Q => match ds with
  | [.str x] => ∃ n, PySem.intText? x = some n ∧ x.length ≤ 640 ∧ Q (.int n) M
  | _ => False
theorem gcIntS_1 {x : PySem.Str} {M : Mem} {Q : D → Mem → Prop} : gcIntS [.str x] M Q = ∃ n, PySem.intText? x = some n ∧ x.length ≤ 640 ∧ Q (.int n) M := propext Iff.rfl
end DL
set_option Elab.async false
set_option linter.all false
set_option maxRecDepth 100000
set_option maxHeartbeats 2000000
namespace DL
open PySem PySem.Spec PySem.W PyProof.Rows L2 LamX
end DL
set_option Elab.async false
set_option linter.all false
set_option maxRecDepth 100000
set_option maxHeartbeats 2000000
namespace DL
open PySem PySem.Spec PySem.W PyProof.Rows L2
section
variable {X : Cx} {w p : Bool} {b : Expr} {gb : GE} {pos : Pos}
def gIxO (i : Nat) (gb : GE) : GE := fun r M Q => match r.sl[i]? with
  | some (.o (.lst xs)) => gb r M fun e M1 => match e with
    | .int j => match atI xs j with
      | some z => Q z M1
      | none => False
    | _ => False
  | _ => False
def gFaddO (i : Nat) (gb : GE) : GF := fun r M Q => match r.sl[i]? with
  | some (.o (.lst xs)) => gb r M fun e M1 => match e with
    | .lst ys => xs.length + ys.length ≤ sizeLine ∧ Q (.lst (xs ++ ys)) M1
    | _ => False
  | _ => False
theorem e_gIxO {i : Nat} {gb : GE} {r : DL.Fr} {M : Mem} {Q : D → Mem → Prop} : gIxO i gb r M Q = (match r.sl[i]? with
  | some (.o (.lst xs)) => gb r M fun e M1 => match e with
    | .int j => match atI xs j with
      | some z => Q z M1
      | none => False
    | _ => False
  | _ => False) := propext Iff.rfl
theorem e_gFaddO {i : Nat} {gb : GE} {r : DL.Fr} {M : Mem} {Q : OM → Mem → Prop} : gFaddO i gb r M Q = (match r.sl[i]? with
  | some (.o (.lst xs)) => gb r M fun e M1 => match e with
    | .lst ys => xs.length + ys.length ≤ sizeLine ∧ Q (.lst (xs ++ ys)) M1
    | _ => False
  | _ => False) := propext Iff.rfl
end
end DL
set_option Elab.async false
set_option linter.all false
set_option maxRecDepth 100000
set_option maxHeartbeats 2000000
namespace DL
open PySem PySem.Spec PySem.W PyProof PyProof.Rows L2
def SqK (b : Bool) (K : PySem.W.Frag) (H : Hp) (a : Addr) (xs : List V) : Prop := match b with
  | true => SqT K H a xs
  | false => SqL K H a xs
def ItK (b : Bool) (h : Heap) (it l : Addr) (i : Nat) : Prop := match b with
  | true => h.IsTupleIter it l i
  | false => h.IsListIter it l i
def AtK (b : Bool) (h : Heap) (l : Addr) (us : Array Value) : Prop := match b with
  | true => h.IsTuple l us
  | false => h.IsList l us
section
variable {prog : Program} {w : World} {A : Around} {h h' : Heap} {it l a : Addr} {i : Nat} {us : Array Value} {b : Bool}
theorem ItK.at (z : ItK b h it l i) (k : ∀ o, h.get? it = some o → h'.get? it = some o) : ItK b h' it l i := by
  cases b with
  | true => exact Heap.IsTupleIter.at z k
  | false => exact Heap.IsListIter.at z k
theorem AtK.at (z : AtK b h l us) (k : ∀ o, h.get? l = some o → h'.get? l = some o) : AtK b h' l us := by
  cases b with
  | true => exact Heap.IsTuple.at z k
  | false => exact Heap.IsList.at z k
end
/-- zip of two, each a list or a tuple -/
def giZipX (gs : GA) : GI := fun r M Q => gs r M fun ds M1 => match ds with
  | [.lst xs, .lst ys] => Q (zipD xs ys) M1
  | [.tup xs, .tup ys] => Q (zipD xs ys) M1
  | [.tup xs, .lst ys] => Q (zipD xs ys) M1
  | [.lst xs, .tup ys] => Q (zipD xs ys) M1
  | _ => False
def MtK (b : Bool) (K : PySem.W.Frag) (A : Addr → Prop) (H : Hp) (a : Addr) (vs : List V) : Prop := match b with
  | true => TupAt K A H a vs
  | false => LstAt A H a vs
section
variable {X : Cx} {B A A' : Addr → Prop} {H H' H1 : Hp} {M1 : Mem} {O1 : Own} {a b : Addr} {b1 b2 : Bool} {vs us : List V} {ds es : List D}
theorem MtK.step {K : PySem.W.Frag} (s : Step A H A' H') (h : MtK b1 K A H a vs) : MtK b1 K A' H' a vs := by
  cases b1 with
  | true => exact TupAt.step s h
  | false => exact LstAt.step s h
theorem MtK.sq {K : PySem.W.Frag} (h : MtK b1 K A H a vs) : SqK b1 K H a vs := by
  cases b1 with
  | true => exact TupAt.sq h
  | false => exact SqL.of h.2
end
section
variable {X : Cx} {p : Bool} {a b : Expr} {gs : GA} {pos : Pos}
def zipXK (ds : List D) (M : Mem) (Q : List D → Mem → Prop) : Prop := match ds with
  | [.lst xs, .lst ys] => Q (zipD xs ys) M
  | [.tup xs, .tup ys] => Q (zipD xs ys) M
  | [.tup xs, .lst ys] => Q (zipD xs ys) M
  | [.lst xs, .tup ys] => Q (zipD xs ys) M
  | _ => False
theorem giZipX_k {gs : GA} {r : DL.Fr} {M : Mem} {Q : List D → Mem → Prop} : giZipX gs r M Q = gs r M fun ds M1 => zipXK ds M1 Q := by
  unfold giZipX
  congr 1
theorem zipXK_ll {xs ys : List D} {M : Mem} {Q : List D → Mem → Prop} : zipXK [.lst xs, .lst ys] M Q = Q (zipD xs ys) M := propext Iff.rfl
theorem zipXK_tt {xs ys : List D} {M : Mem} {Q : List D → Mem → Prop} : zipXK [.tup xs, .tup ys] M Q = Q (zipD xs ys) M := propext Iff.rfl
theorem zipXK_tl {xs ys : List D} {M : Mem} {Q : List D → Mem → Prop} : zipXK [.tup xs, .lst ys] M Q = Q (zipD xs ys) M := propext Iff.rfl
theorem zipXK_lt {xs ys : List D} {M : Mem} {Q : List D → Mem → Prop} : zipXK [.lst xs, .tup ys] M Q = Q (zipD xs ys) M := propext Iff.rfl
end
end DL
set_option Elab.async false
set_option linter.all false
set_option maxRecDepth 100000
set_option maxHeartbeats 2000000
namespace DL
open PySem PySem.Spec PySem.W PyProof PyProof.Rows L2
section
variable {X : Cx}
def goInT (neg : Bool) : GO := fun d e M Q => match e with
  | .tup ds => (d.ok = true ∧ D.ok (.tup ds) = true) ∧ Q (.bl (xor neg (ds.any fun z => z.eqv d))) M
  | _ => False
theorem e_gtLst (gts : GGs) (n : Nat) : ∀ d r M Q, gtLst gts n d r M Q = (match d with
  | .lst ds => ds.length = n ∧ gts ds r M Q
  | _ => False) := fun _ _ _ _ => propext Iff.rfl
theorem goInT_tup {neg : Bool} {d : D} {ds : List D} {M : Mem} {Q : D → Mem → Prop} : goInT neg d (.tup ds) M Q = ((d.ok = true ∧ D.ok (.tup ds) = true) ∧ Q (.bl (xor neg (ds.any fun z => z.eqv d))) M) := propext Iff.rfl
end
end DL
set_option Elab.async false
set_option linter.all false
set_option maxRecDepth 100000
set_option maxHeartbeats 2000000
namespace DL
open PySem PySem.Spec PySem.W PyProof PyProof.Rows L2
theorem IsL.drop1 {K : PySem.W.Frag} {A : Addr → Prop} {H : Hp} : ∀ {ds : List D} {d : D} {vs : List V}, IsL K A H vs (ds ++ [d]) → ∃ ws v, vs = ws ++ [v] ∧ IsL K A H ws ds ∧ Is K A H v d
  | [], _, _, h => by
    cases h with
    | cons i t =>
      cases t
      exact ⟨[], _, rfl, .nil, i⟩
  | x :: ds, _, _, h => by
    cases h with
    | cons i t =>
      obtain ⟨ws, v, e, l, j⟩ := IsL.drop1 t
      exact ⟨_ :: ws, v, by rw [e]; rfl, .cons i l, j⟩
section
variable {X : Cx}
def gPopS (i j : Nat) : GS := fun D r M => match r.sl[i]? with
  | some (.o (.lst ds)) => ∃ es d, ds = es ++ [d] ∧ D.nx ((r.set i (.o (.lst es))).set j (.v d)) M
  | _ => False
theorem ds_popS (i j : Nat) {x y : Str} {px py apos cpos pos : Pos} (hNd : X.N.Nodup) (hN : X.N[i]? = some x := by rfl) (hv : Vis X.env.scope x := by first | exact Or.inl rfl | exact Or.inr (Or.inl rfl) | exact Or.inr (Or.inr rfl)) (hd : (x == ("__debug__" : Str)) = false := by decide)
    (hcd : (x == ("__classdict__" : Str)) = false := by decide)
    (hbase : attributeBase (.Name x px) "pop" X.env (eval (.Name x px) X.env) = eval (.Name x px) X.env := by rfl)
    (hline : (apos.endLine == cpos.line) = true := by rfl)
    (hi' : X.N[j]? = some y := by rfl) (hy : Loc X.env.scope y := by first | exact Or.inl rfl | exact Or.inr rfl)
    (hsw : swapsWith (.Call (.Attribute (.Name x px) "pop" apos) [] [] cpos) (some (.Name y py)) pos.line X.env = pure false := by rfl)
    (hf : X.fn y = true ∨ X.env.scope.names.lookup y = some .local := by first | exact .inl rfl | exact .inr rfl | assumption) :
    DS X (.Assign [.Name y py] (.Call (.Attribute (.Name x px) "pop" apos) [] [] cpos) pos) (gPopS i j) := by
  refine ⟨psI (ps_set hNd hi' hy (pe_bm0 PySem.F.plainAttrs_list PySem.F.slot_list_pop PySem.F.type_list_pop mt_pop (pe_var (pos := px) hN hv hd hcd) hbase hline) hsw hf) fun D σ H ⟨B, E, r, M, O, R, q⟩ => ?_, fun D D' r M l q => ?_⟩
  · unfold gPopS at q
    split at q
    · rename_i ds er
      obtain ⟨es, d, rfl, q⟩ := q
      obtain ⟨x, e1, a, e2, ha, vs, e3, l3⟩ := R.slot er
      subst e2
      refine ⟨.ref a, e1, .inl ⟨rfl, vs, SqL.of e3⟩, ?_⟩
      obtain ⟨ws, v, rfl, lw, iv⟩ := IsL.drop1 l3
      refine ⟨a, _, v, rfl, rfl, e3, by simp, ?_⟩
      rw [List.dropLast_concat]
      have s : Step (Av B M O) H (Av B M O) (upd H a (.lst ws)) := fun b o eb nb => ⟨by
        rw [upd_ne (fun z => nb (by rw [z]; exact .inr (.inr (by rw [ha]; simp))))]; exact eb, nb⟩
      have R1 := R.mutO er e1 ha (m' := .lst es) (u := .lst ws) ⟨ws, upd_same, lw.step s⟩
      exact q _ _ O (R1.setv j (Is.step s iv))
    · exact q.elim
  · unfold gPopS at q ⊢
    split at q
    · obtain ⟨es, d, e, q⟩ := q
      exact ⟨es, d, e, l.nx _ _ q⟩
    · exact q.elim
end
theorem extend_tupW (l : Addr) (us : Array Value) (n : Nat) (b : Addr) (ws : Array Value) (m : Nat) (dd : Option Addr) (sl : Array (Option Value)) (z0 : ¬ (!us.isEmpty && Builtin.List.listTooLong (us.size + ws.size)) = true) (z1 : us.size ≤ sizeLine) (z2 : us.size + ws.size ≤ sizeLine + 1) :
    Meets (Builtin.«list.extend» ⟨[.ref l, .ref b], []⟩) (fun _ R s => s.heap.get? l = some { cls := .type "list", dict := none, data := .seq us n, slots := #[] } ∧ s.heap.get? b = some { cls := .type "tuple", dict := dd, data := .seq ws m, slots := sl } ∧ R (.ok (.ret Value.none)) { s with heap := s.heap.update l (Obj.mapSeq fun x => x ++ ws), toks := s.toks }) :=
  .of_wp fun prog w A R s g => by
    obtain ⟨hp, gs, dr, tk, os⟩ := s
    obtain ⟨ga, gb, g⟩ := g
    have t1 := PySem.AutoSeq1.idx_int
    have t2 := PySem.AutoSeq1.sub_tuple_tuple
    have t3 := PySem.AutoSeq1.sub_list_list
    have t4 := PySem.AutoSeq1.sub_tuple_list
    have t5 := PySem.AutoSeq1.sub_list_tuple
    have t6 : (us ++ ws).size ≤ sizeLine + 1 := by rw [Array.size_append]; exact z2
    wp_walk using (wpAny_updateSeq ga rfl (hz := z1) (_hz' := t6)), PySem.AutoSeq1.wpAny_loadPart' ga, PySem.AutoSeq1.wpAny_loadPart' gb
    exact ⟨_, rfl, g⟩
def rExtT (K : PySem.W.Frag) : V → List V → Hp → VK → Prop := fun x vs H Q => ∃ l b xs zs, x = .ref l ∧ vs = [.ref b] ∧ H l = some (.lst xs) ∧ SqT K H b zs ∧ xs.length + zs.length ≤ sizeLine ∧ Q .non (upd H l (.lst (xs ++ zs)))
theorem mt_extT {X : Cx} : MtR X "list.extend" (rExtT X.K) := by
  intro pins s σ H x vs v us Q I rx rv ⟨l, b, xs, zs, ex, ev, hH, hB, hz, q⟩
  subst ex
  subst ev
  cases rx
  obtain ⟨u, rfl, ru⟩ := vals1 rv
  cases ru
  obtain ⟨z, its, n, r, hl, e⟩ := I.lstM hH
  obtain ⟨its2, r2, ⟨⟨cls, dd, data, sl⟩, ho, hc, n2, hd⟩, _⟩ := I.tuple hB
  simp only at hc hd
  subst hc hd
  have l2 := r2.length
  have hsz : its.toArray.size + its2.toArray.size ≤ sizeLine := by rw [List.size_toArray, List.size_toArray]; omega
  have hlong : ¬ (!its.toArray.isEmpty && Builtin.List.listTooLong (its.toArray.size + its2.toArray.size)) = true := by
    rw [notLongL hsz, Bool.and_false]; exact Bool.false_ne_true
  refine call_meets F.slot_list_extend ⟨_, e, rfl⟩ F.entry_list_extend (F.args_list_extend_2 _ _) (extend_tupW l its.toArray n b its2.toArray n2 dd sl hlong (by rw [List.size_toArray]; omega) (by omega)) ⟨e, ho, ?_⟩
  refine ⟨.non, _, I.lset (its' := its ++ its2) hH e (by simp) (r.append r2) (by rw [List.length_append]; omega), rfl, q⟩
def gExtT (i : Nat) (ge : GE) : GS := fun D r M => match r.sl[i]? with
  | some (.o (.lst ds)) => ge r M fun d M1 => match d with
    | .tup es => ds.length + es.length ≤ sizeLine ∧ D.nx (r.set i (.o (.lst (ds ++ es)))) M1
    | _ => False
  | _ => False
section
variable {X : Cx} {p : Bool} {e : Expr} {ge : GE} {pos : Pos}
theorem ds_extT (i : Nat) {x : Str} {px apos cpos : Pos} (he : DE true p X e ge) (hN : X.N[i]? = some x := by rfl) (hv : Vis X.env.scope x := by first | exact Or.inl rfl | exact Or.inr (Or.inl rfl) | exact Or.inr (Or.inr rfl)) (hd : (x == ("__debug__" : Str)) = false := by decide)
    (hcd : (x == ("__classdict__" : Str)) = false := by decide)
    (hbase : attributeBase (.Name x px) "extend" X.env (eval (.Name x px) X.env) = eval (.Name x px) X.env := by rfl)
    (hfew : ((backTo cpos (starEach [e] X.env)).all (fun x => !x.1) && (backToKw cpos (keywordEach [] X.env)).all (fun x => x.1.isSome)
      && decide ([e].length + ([] : List Keyword).length + (if ([] : List Keyword).isEmpty then 0 else 1) < 30)) = true := by rfl)
    (hline : (apos.endLine == cpos.line) = true := by rfl) (hs : starEach [e] X.env = (false, eval e X.env) :: starEach [] X.env := by rfl) (hplain : (backTo cpos (starEach [] X.env)).any (·.1) = false := by rfl)
    (hsw : swapsWith (.Call (.Attribute (.Name x px) "extend" apos) [e] [] cpos) none pos.line X.env = pure false := by rfl) :
    DS X (.Expr (.Call (.Attribute (.Name x px) "extend" apos) [e] [] cpos) pos) (gExtT i ge) := by
  have he' := da_one (w := true) he hs
  refine ⟨psI (ps_expr (pe_bm PySem.F.plainAttrs_list PySem.F.slot_list_extend PySem.F.type_list_extend mt_extT (pe_var (pos := px) hN hv hd hcd) he'.run hbase hfew hline hs hplain) hsw) fun D σ H ⟨B, E, r, M, O, R, q⟩ => ?_, fun D D' r M l q => ?_⟩
  · unfold gExtT at q
    split at q
    · rename_i ds er
      obtain ⟨x, e1, a, e2, ha, vs, e3, l3⟩ := R.slot er
      subst e2
      refine ⟨.ref a, e1, .inl ⟨rfl, vs, SqL.of e3⟩, ?_⟩
      refine he'.on R (k := fun zs M1 => ∃ d, zs = [d] ∧ match d with
        | .tup es => ds.length + es.length ≤ sizeLine ∧ (LS X B E D).nx (r.set i (.o (.lst (ds ++ es)))) M1
        | _ => False) (he.mono _ _ _ _ (fun d M1 q1 => ⟨d, rfl, q1⟩) q) fun zs M1 us H1 O1 k1 R1 l1 i1 => ?_
      obtain ⟨d, rfl, k1⟩ := k1
      split at k1
      · obtain ⟨hz, k1⟩ := k1
        have i2 := isXL_strong i1
        cases i2 with
        | @cons v _ us' _ i3 t =>
          cases t
          cases i3 with
          | @tup b zs _ hb lb =>
            obtain ⟨x', f1, a', f2, ha', vs', f3, l3'⟩ := R1.slot er
            rw [e1] at f1
            cases f1
            have f2 : some (V.ref a) = some (V.ref a') := f2
            cases f2
            refine ⟨a, b, vs', zs, rfl, rfl, f3, hb.sq, by rw [l3'.length, lb.length]; exact hz, ?_⟩
            have s : Step (Av B M1 O1) H1 (Av B M1 O1) (upd H1 a (.lst (vs' ++ zs))) := fun b o eb nb => ⟨by
              rw [upd_ne (fun z => nb (by rw [z]; exact .inr (.inr (by rw [ha']; simp))))]; exact eb, nb⟩
            exact k1 σ _ O1 (R1.mutO er e1 ha' ⟨vs' ++ zs, upd_same, (l3'.append lb).step s⟩)
      · exact k1.elim
    · exact q.elim
  · unfold gExtT at q ⊢
    split at q
    · refine he.mono _ _ _ _ (fun d M1 q1 => ?_) q
      split at q1
      · exact ⟨q1.1, l.nx _ _ q1.2⟩
      · exact q1.elim
    · exact q.elim
end
theorem e_gPopS (i j : Nat) : ∀ D r M, gPopS i j D r M = (match r.sl[i]? with
  | some (.o (.lst ds)) => ∃ es d, ds = es ++ [d] ∧ D.nx ((r.set i (.o (.lst es))).set j (.v d)) M
  | _ => False) := fun _ _ _ => propext Iff.rfl
theorem e_gExtT (i : Nat) (ge : GE) : ∀ D r M, gExtT i ge D r M = (match r.sl[i]? with
  | some (.o (.lst ds)) => ge r M fun d M1 => match d with
    | .tup es => ds.length + es.length ≤ sizeLine ∧ D.nx (r.set i (.o (.lst (ds ++ es)))) M1
    | _ => False
  | _ => False) := fun _ _ _ => propext Iff.rfl
end DL
set_option Elab.async false
set_option linter.all false
set_option maxRecDepth 100000
set_option maxHeartbeats 2000000
namespace DL
open PySem PySem.Spec PySem.W PyProof.Rows L2
section
variable {X : Cx} {w p w1 w2 : Bool} {o e a b c : Expr} {es : List Expr} {g ga gb ge go : GE} {gs : GA} {B : Addr → Prop} {E : En} {σ : L2.St} {H H' : Hp} {r : DL.Fr} {M M' : Mem} {O O' : Own} {pos pos' apos cpos : Pos} {l : Addr} {f : PySem.Str}
def gAugF (K : PySem.W.Frag) (f : PySem.Str) (ga ge : GE) : GS := fun D r M => ga r M fun d M1 => fldK K f d M1 fun y _ => ge r M1 fun z M2 => match y, z with
  | .int i, .int j => putFK K f (.int (i + j)) d M2 fun M3 => D.nx r M3
  | _, _ => False
def catK (d e : D) (k : List D → Prop) : Prop := match d, e with
  | .lst xs, .lst ys => xs.length + ys.length ≤ sizeLine ∧ k (xs ++ ys)
  | _, _ => False
def gFcat (ga gb : GE) : GF := fun r M Q => ga r M fun d M1 => gb r M1 fun e M2 => catK d e fun zs => Q (.lst zs) M2
theorem df_cat (ha : DE true p X a ga) (hb : DE true p X b gb) : DF p X (.BinOp a .Add b pos) (gFcat ga gb) := by
  refine ⟨peI (pe_op op_cat ha.run hb.run) fun σ H Q ⟨B, E, r, M, O, R, q⟩ => ?_, fun r M Q Q' h q => ha.mono _ _ _ _ (fun d M1 q1 => hb.mono _ _ _ _ (fun e M2 q2 => ?_) q1) q⟩
  · refine ha.on R q fun d M1 v H1 O1 k1 R1 l1 i1 => ?_
    refine hb.on R1 k1 fun e M2 u H2 O2 k2 R2 l2 i2 => ?_
    have i1 : Is X.K (Av B M2 O2) H2 v d := Is.step l2.avs i1
    have i2 : Is X.K (Av B M2 O2) H2 u e := i2
    unfold catK at k2
    split at k2
    · cases i1 with
      | @lst a vs _ h1 m1 =>
        cases i2 with
        | @lst b ws _ h2 m2 =>
          refine ⟨a, b, vs, ws, rfl, rfl, h1.2, h2.2, by rw [m1.length, m2.length]; exact k2.1, fun c n => ?_⟩
          obtain ⟨N, q⟩ := new_lst R2 (m1.append m2) n
          exact k2.2 c _ O2 N ((l1.trans l2).trans (Rl.of_same (same_upd n))) q
    · exact k2.elim
  · unfold catK at q2 ⊢
    split at q2
    · exact ⟨q2.1, h _ _ q2.2⟩
    · exact q2.elim
variable {gx : GX} {n : Nat} {m : PySem.Str} {ks : List AK} {tbl : List (Addr × FS)}
def gxMeth (m : PySem.Str) (tbl : List (Addr × FS)) (go : GE) (gs : GA) : GX := fun r M Q Xc => go r M fun d M1 => mthK m tbl d M1 fun a fs => gs r M1 fun ds M2 => fs (.ref a :: ds) M2 Q Xc
def gxMake (C : Addr) (Fk : Prop) (fs : FS) (gs : GA) : GX := fun r M Q Xc => gs r M fun ds M1 => Fk → ∀ x, M1 x = none → fs (.ref x :: ds) (mup M1 x (.ins C [])) (fun d M2 => d = .non ∧ Q (.ref x) M2) Xc
/-- x[k] of what may raise -/
def gxIx (gx : GX) (gb : GE) : GX := fun r M Q Xc => gx r M (fun d M1 => gb r M1 fun e M2 => goIx d e M2 Q) Xc
/-- a if c else b, each of which may raise -/
def gxIf (gt : GT) (gx gy : GX) : GX := fun r M Q Xc => gt r M fun b M1 => if b = true then gx r M1 Q Xc else gy r M1 Q Xc
abbrev GSX := DEnds → DL.Fr → Mem → (Addr → Mem → Prop) → Prop
def gsSet (jy : Nat) (gx : GX) : GSX := fun D r M Xc => gx (Fr.mute r) M (fun d M' => D.nx (r.set jy (.v d)) M') Xc
def gsExpr (gx : GX) : GSX := fun D r M Xc => gx (Fr.mute r) M (fun _ M' => D.nx r M') Xc
def gsIf (gt : GT) (ga gb : GSX) : GSX := fun D r M Xc => gt (Fr.mute r) M fun b M' => if b = true then ga D r M' Xc else gb D r M' Xc
def gTryS (jz jn : Nat) (tb : List (Addr × Bool)) (gs : GSX) : GS := fun D r M => gs D r M (caught tb jz jn D r)
theorem e_gAugF {K : PySem.W.Frag} {f : PySem.Str} {ga ge : GE} {D : DEnds} {r : DL.Fr} {M : Mem} : gAugF K f ga ge D r M = (ga r M fun d M1 => fldK K f d M1 fun y _ => ge r M1 fun z M2 => match y, z with
  | .int i, .int j => putFK K f (.int (i + j)) d M2 fun M3 => D.nx r M3
  | _, _ => False) := propext Iff.rfl
theorem e_gFcat {ga gb : GE} {r : DL.Fr} {M : Mem} {Q : OM → Mem → Prop} : gFcat ga gb r M Q = (ga r M fun d M1 => gb r M1 fun e M2 => catK d e fun zs => Q (.lst zs) M2) := propext Iff.rfl
theorem e_catK_lst {xs ys : List D} {k : List D → Prop} : catK (.lst xs) (.lst ys) k = (xs.length + ys.length ≤ sizeLine ∧ k (xs ++ ys)) := propext Iff.rfl
theorem e_gxMeth {m : PySem.Str} {tbl : List (Addr × FS)} {go : GE} {gs : GA} {r : DL.Fr} {M : Mem} {Q : D → Mem → Prop} {Xc : Addr → Mem → Prop} : gxMeth m tbl go gs r M Q Xc = (go r M fun d M1 => mthK m tbl d M1 fun a fs => gs r M1 fun ds M2 => fs (.ref a :: ds) M2 Q Xc) := propext Iff.rfl
theorem e_gxMake {C : Addr} {Fk : Prop} {fs : FS} {gs : GA} {r : DL.Fr} {M : Mem} {Q : D → Mem → Prop} {Xc : Addr → Mem → Prop} : gxMake C Fk fs gs r M Q Xc = (gs r M fun ds M1 => Fk → ∀ x, M1 x = none → fs (.ref x :: ds) (mup M1 x (.ins C [])) (fun d M2 => d = .non ∧ Q (.ref x) M2) Xc) := propext Iff.rfl
theorem e_gxIx {gx : GX} {gb : GE} {r : DL.Fr} {M : Mem} {Q : D → Mem → Prop} {Xc : Addr → Mem → Prop} : gxIx gx gb r M Q Xc = (gx r M (fun d M1 => gb r M1 fun e M2 => goIx d e M2 Q) Xc) := propext Iff.rfl
theorem e_gxIf {gt : GT} {gx gy : GX} {r : DL.Fr} {M : Mem} {Q : D → Mem → Prop} {Xc : Addr → Mem → Prop} : gxIf gt gx gy r M Q Xc = (gt r M fun b M1 => if b = true then gx r M1 Q Xc else gy r M1 Q Xc) := propext Iff.rfl
theorem e_gsSet {jy : Nat} {gx : GX} {D : DEnds} {r : DL.Fr} {M : Mem} {Xc : Addr → Mem → Prop} : gsSet jy gx D r M Xc = (gx (Fr.mute r) M (fun d M' => D.nx (r.set jy (.v d)) M') Xc) := propext Iff.rfl
theorem e_gsExpr {gx : GX} {D : DEnds} {r : DL.Fr} {M : Mem} {Xc : Addr → Mem → Prop} : gsExpr gx D r M Xc = (gx (Fr.mute r) M (fun _ M' => D.nx r M') Xc) := propext Iff.rfl
theorem e_gsIf {gt : GT} {ga gb : GSX} {D : DEnds} {r : DL.Fr} {M : Mem} {Xc : Addr → Mem → Prop} : gsIf gt ga gb D r M Xc = (gt (Fr.mute r) M fun b M' => if b = true then ga D r M' Xc else gb D r M' Xc) := propext Iff.rfl
theorem e_gTryS {jz jn : Nat} {tb : List (Addr × Bool)} {gs : GSX} {D : DEnds} {r : DL.Fr} {M : Mem} : gTryS jz jn tb gs D r M = (gs D r M (caught tb jz jn D r)) := propext Iff.rfl
end
end DL
set_option Elab.async false
set_option linter.all false
set_option maxRecDepth 100000
namespace DL
open PySem PySem.Spec PySem.W PyProof.Rows L2
theorem RB15 : ((((((((type_of% @e_gSeq ∧ type_of% @e_gSet) ∧ (type_of% @e_gRet ∧ type_of% @e_gRetN)) ∧ ((type_of% @e_gNext ∧ type_of% @e_gIfS) ∧ (type_of% @e_gDrop ∧ type_of% @e_gOwn))) ∧ (((type_of% @e_gApp ∧ type_of% @e_gExt) ∧ (type_of% @e_gForM ∧ type_of% @e_gLcM)) ∧ ((type_of% @e_gCnt ∧ type_of% @e_gTryV) ∧ (type_of% @e_gTryE ∧ type_of% @e_gxP)))) ∧ ((((type_of% @e_gxM ∧ type_of% @e_gIPut) ∧ (type_of% @e_gFrz ∧ type_of% @e_gAsg)) ∧ ((type_of% @e_gPar ∧ type_of% @e_gPar3) ∧ (type_of% @e_gAug ∧ type_of% @e_gRaise))) ∧ (((type_of% @e_gRetM ∧ type_of% @e_gSetM) ∧ (type_of% @e_gMPut ∧ type_of% @e_gMGet)) ∧ ((type_of% @e_g1 ∧ type_of% @e_g2) ∧ (type_of% @e_gC ∧ (type_of% @e_gV ∧ type_of% @e_gVw)))))) ∧ (((((type_of% @e_gB ∧ type_of% @e_gAnd) ∧ (type_of% @e_gOr ∧ type_of% @e_gNot)) ∧ ((type_of% @e_gNotV ∧ type_of% @e_gIf) ∧ (type_of% @e_DL_gCons ∧ type_of% @e_DL_gNil))) ∧ (((type_of% @e_DL_gTup ∧ type_of% @e_DL_gLst) ∧ (type_of% @e_gFl ∧ type_of% @e_gFd)) ∧ ((type_of% @e_gCa ∧ type_of% @e_gLenS) ∧ (type_of% @e_gPart ∧ (type_of% @e_gNoP ∧ type_of% @e_gDisp))))) ∧ ((((type_of% @e_gPcons ∧ type_of% @e_gPnil) ∧ (type_of% @e_gtN ∧ type_of% @e_gtTup)) ∧ ((type_of% @e_gtCons ∧ type_of% @e_gtNil) ∧ (type_of% @e_gYes ∧ type_of% @e_gFor))) ∧ (((type_of% @e_gLc ∧ type_of% @e_giS) ∧ (type_of% @e_gCallP ∧ type_of% @e_gCallM)) ∧ ((type_of% @e_gScr ∧ type_of% @e_gIdx) ∧ (type_of% @e_goAdd_int ∧ (type_of% @e_goAdd_str ∧ type_of% @e_goAdd_tup))))))) ∧ ((((((type_of% @e_goAdd_lst ∧ type_of% @e_goAddW_int) ∧ (type_of% @e_goAddW_lst ∧ type_of% @e_goPlus_int)) ∧ ((type_of% @e_goI_int ∧ type_of% @e_guI_int) ∧ (type_of% @e_gcI1_int ∧ type_of% @e_goIx_lst))) ∧ (((type_of% @e_gcLen_lst ∧ type_of% @e_gcTupleS_lst) ∧ (type_of% @e_gcList_lst ∧ type_of% @e_goRevA_lst)) ∧ ((type_of% @e_goIx_tup ∧ type_of% @e_gcLen_tup) ∧ (type_of% @e_gcTupleS_tup ∧ (type_of% @e_gcList_tup ∧ type_of% @e_goRevA_tup))))) ∧ ((((type_of% @e_gcTuple_lst ∧ type_of% @e_goIx_str) ∧ (type_of% @e_gcLen_str ∧ type_of% @e_gcInt_int)) ∧ ((type_of% @e_gcInt_bl ∧ type_of% @e_goMulT_tup) ∧ (type_of% @e_goMulL_lst ∧ type_of% @e_goIsB_bl))) ∧ (((type_of% @e_goIsN_non ∧ type_of% @isN_int) ∧ (type_of% @isN_bl ∧ type_of% @isN_str)) ∧ ((type_of% @isN_tup ∧ type_of% @isN_lst) ∧ (type_of% @isN_dic ∧ (type_of% @isN_ref ∧ type_of% @isN_ty)))))) ∧ (((((type_of% @isN_non ∧ type_of% @e_truK_non) ∧ (type_of% @e_truK_bl ∧ type_of% @e_truK_int)) ∧ ((type_of% @e_truK_lst ∧ type_of% @e_truK_tup) ∧ (type_of% @e_truK_str ∧ type_of% @e_lstK_lst))) ∧ (((type_of% @e_lstK_tup ∧ type_of% @e_slK_lst) ∧ (type_of% @e_slK_str ∧ type_of% @e_itsK_lst)) ∧ ((type_of% @e_itsK_tup ∧ type_of% @e_zipK_lst) ∧ (type_of% @e_zipK_tup ∧ (type_of% @e_ran1K_int ∧ type_of% @e_ran2K_int))))) ∧ ((((type_of% @e_goLtA_int ∧ type_of% @e_goEq_int) ∧ (type_of% @e_goNe_int ∧ type_of% @e_goEq_bl)) ∧ ((type_of% @e_goNe_bl ∧ type_of% @isi_non_int) ∧ (type_of% @isi_non_bool ∧ type_of% @isi_non_str))) ∧ (((type_of% @isi_non_tuple ∧ type_of% @isi_non_list) ∧ (type_of% @isi_non_dict ∧ type_of% @isi_bl_int)) ∧ ((type_of% @isi_bl_bool ∧ type_of% @isi_bl_str) ∧ (type_of% @isi_bl_tuple ∧ (type_of% @isi_bl_list ∧ type_of% @isi_bl_dict)))))))) ∧ (((((((type_of% @isi_int_int ∧ type_of% @isi_int_bool) ∧ (type_of% @isi_int_str ∧ type_of% @isi_int_tuple)) ∧ ((type_of% @isi_int_list ∧ type_of% @isi_int_dict) ∧ (type_of% @isi_str_int ∧ type_of% @isi_str_bool))) ∧ (((type_of% @isi_str_str ∧ type_of% @isi_str_tuple) ∧ (type_of% @isi_str_list ∧ type_of% @isi_str_dict)) ∧ ((type_of% @isi_tup_int ∧ type_of% @isi_tup_bool) ∧ (type_of% @isi_tup_str ∧ type_of% @isi_tup_tuple)))) ∧ ((((type_of% @isi_tup_list ∧ type_of% @isi_tup_dict) ∧ (type_of% @isi_lst_int ∧ type_of% @isi_lst_bool)) ∧ ((type_of% @isi_lst_str ∧ type_of% @isi_lst_tuple) ∧ (type_of% @isi_lst_list ∧ type_of% @isi_lst_dict))) ∧ (((type_of% @isi_dic_int ∧ type_of% @isi_dic_bool) ∧ (type_of% @isi_dic_str ∧ type_of% @isi_dic_tuple)) ∧ ((type_of% @isi_dic_list ∧ type_of% @isi_dic_dict) ∧ (type_of% @e_goEq_str ∧ (type_of% @e_goNe_str ∧ type_of% @e_goEq_tup)))))) ∧ (((((type_of% @e_goNe_tup ∧ type_of% @e_goEq_lst) ∧ (type_of% @e_goNe_lst ∧ type_of% @e_goEq_non)) ∧ ((type_of% @e_goNe_non ∧ type_of% @e_gAndV_k) ∧ (type_of% @e_gOrV_k ∧ type_of% @e_gCh_k))) ∧ (((type_of% @sz0 ∧ type_of% @se0) ∧ (type_of% @sz1 ∧ type_of% @se1)) ∧ ((type_of% @sz2 ∧ type_of% @se2) ∧ (type_of% @sz3 ∧ (type_of% @se3 ∧ type_of% @sz4))))) ∧ ((((type_of% @se4 ∧ type_of% @sz5) ∧ (type_of% @se5 ∧ type_of% @sz6)) ∧ ((type_of% @se6 ∧ type_of% @sz7) ∧ (type_of% @se7 ∧ type_of% @sz8))) ∧ (((type_of% @se8 ∧ type_of% @sz9) ∧ (type_of% @se9 ∧ type_of% @e_gFld)) ∧ ((type_of% @e_fldK_ref ∧ type_of% @e_gPutF) ∧ (type_of% @e_gPutFM ∧ (type_of% @e_putFK_ref ∧ type_of% @e_gDrf))))))) ∧ ((((((type_of% @e_drfK_ref ∧ type_of% @e_gMApp) ∧ (type_of% @e_mlK_ref ∧ type_of% @e_gMPop)) ∧ ((type_of% @e_popK_int ∧ type_of% @e_gMIns) ∧ (type_of% @e_gMeth ∧ type_of% @e_mthK_ref))) ∧ (((type_of% @e_gMake ∧ type_of% @e_giR3) ∧ (type_of% @e_gFlR1 ∧ type_of% @e_gFlR2)) ∧ ((type_of% @e_rg2K_int ∧ type_of% @e_gLenSet) ∧ (type_of% @e_gMinD ∧ (type_of% @e_giMem ∧ type_of% @e_giBA))))) ∧ ((((type_of% @e_gMIdx ∧ type_of% @e_goTab) ∧ (type_of% @e_gFsort ∧ type_of% @e_gStep)) ∧ ((type_of% @e_stepK_lst ∧ type_of% @e_gAppM) ∧ (type_of% @e_gDictV ∧ type_of% @e_gFdict))) ∧ (((type_of% @e_dictK_lst ∧ type_of% @e_dictK_tup) ∧ (type_of% @e_dictK_dic ∧ type_of% @e_gDic0)) ∧ ((type_of% @e_gFdic0 ∧ type_of% @e_gDGet1) ∧ (type_of% @e_gDGet2 ∧ (type_of% @e_dicK_dic ∧ type_of% @e_gOPut)))))) ∧ (((((type_of% @e_gOPop ∧ type_of% @e_giKeys) ∧ (type_of% @e_gPconsI ∧ type_of% @e_gDispV)) ∧ ((type_of% @e_goIx_dic ∧ type_of% @e_gcLen_dic) ∧ (type_of% @e_lstK_dic ∧ type_of% @e_truK_dic))) ∧ (((type_of% @e_gOIns ∧ type_of% @e_gCallL) ∧ (type_of% @e_gAct ∧ type_of% @e_gxAct)) ∧ ((type_of% @e_gxV ∧ type_of% @e_gItemsT) ∧ (type_of% @e_gFvals ∧ (type_of% @e_giItems ∧ type_of% @e_gFsortD))))) ∧ ((((type_of% @e_sortDK_dic ∧ type_of% @e_gIxO) ∧ (type_of% @e_gFaddO ∧ type_of% @e_gtLst)) ∧ ((type_of% @e_gPopS ∧ type_of% @e_gExtT) ∧ (type_of% @e_gAugF ∧ type_of% @e_gFcat))) ∧ (((type_of% @e_catK_lst ∧ type_of% @e_gxMeth) ∧ (type_of% @e_gxMake ∧ type_of% @e_gxIx)) ∧ ((type_of% @e_gxIf ∧ type_of% @e_gsSet) ∧ (type_of% @e_gsExpr ∧ (type_of% @e_gsIf ∧ type_of% @e_gTryS))))))))) := ⟨⟨⟨⟨⟨⟨⟨⟨@e_gSeq, @e_gSet⟩, ⟨@e_gRet, @e_gRetN⟩⟩, ⟨⟨@e_gNext, @e_gIfS⟩, ⟨@e_gDrop, @e_gOwn⟩⟩⟩, ⟨⟨⟨@e_gApp, @e_gExt⟩, ⟨@e_gForM, @e_gLcM⟩⟩, ⟨⟨@e_gCnt, @e_gTryV⟩, ⟨@e_gTryE, @e_gxP⟩⟩⟩⟩, ⟨⟨⟨⟨@e_gxM, @e_gIPut⟩, ⟨@e_gFrz, @e_gAsg⟩⟩, ⟨⟨@e_gPar, @e_gPar3⟩, ⟨@e_gAug, @e_gRaise⟩⟩⟩, ⟨⟨⟨@e_gRetM, @e_gSetM⟩, ⟨@e_gMPut, @e_gMGet⟩⟩, ⟨⟨@e_g1, @e_g2⟩, ⟨@e_gC, ⟨@e_gV, @e_gVw⟩⟩⟩⟩⟩⟩, ⟨⟨⟨⟨⟨@e_gB, @e_gAnd⟩, ⟨@e_gOr, @e_gNot⟩⟩, ⟨⟨@e_gNotV, @e_gIf⟩, ⟨@e_DL_gCons, @e_DL_gNil⟩⟩⟩, ⟨⟨⟨@e_DL_gTup, @e_DL_gLst⟩, ⟨@e_gFl, @e_gFd⟩⟩, ⟨⟨@e_gCa, @e_gLenS⟩, ⟨@e_gPart, ⟨@e_gNoP, @e_gDisp⟩⟩⟩⟩⟩, ⟨⟨⟨⟨@e_gPcons, @e_gPnil⟩, ⟨@e_gtN, @e_gtTup⟩⟩, ⟨⟨@e_gtCons, @e_gtNil⟩, ⟨@e_gYes, @e_gFor⟩⟩⟩, ⟨⟨⟨@e_gLc, @e_giS⟩, ⟨@e_gCallP, @e_gCallM⟩⟩, ⟨⟨@e_gScr, @e_gIdx⟩, ⟨@e_goAdd_int, ⟨@e_goAdd_str, @e_goAdd_tup⟩⟩⟩⟩⟩⟩⟩, ⟨⟨⟨⟨⟨⟨@e_goAdd_lst, @e_goAddW_int⟩, ⟨@e_goAddW_lst, @e_goPlus_int⟩⟩, ⟨⟨@e_goI_int, @e_guI_int⟩, ⟨@e_gcI1_int, @e_goIx_lst⟩⟩⟩, ⟨⟨⟨@e_gcLen_lst, @e_gcTupleS_lst⟩, ⟨@e_gcList_lst, @e_goRevA_lst⟩⟩, ⟨⟨@e_goIx_tup, @e_gcLen_tup⟩, ⟨@e_gcTupleS_tup, ⟨@e_gcList_tup, @e_goRevA_tup⟩⟩⟩⟩⟩, ⟨⟨⟨⟨@e_gcTuple_lst, @e_goIx_str⟩, ⟨@e_gcLen_str, @e_gcInt_int⟩⟩, ⟨⟨@e_gcInt_bl, @e_goMulT_tup⟩, ⟨@e_goMulL_lst, @e_goIsB_bl⟩⟩⟩, ⟨⟨⟨@e_goIsN_non, @isN_int⟩, ⟨@isN_bl, @isN_str⟩⟩, ⟨⟨@isN_tup, @isN_lst⟩, ⟨@isN_dic, ⟨@isN_ref, @isN_ty⟩⟩⟩⟩⟩⟩, ⟨⟨⟨⟨⟨@isN_non, @e_truK_non⟩, ⟨@e_truK_bl, @e_truK_int⟩⟩, ⟨⟨@e_truK_lst, @e_truK_tup⟩, ⟨@e_truK_str, @e_lstK_lst⟩⟩⟩, ⟨⟨⟨@e_lstK_tup, @e_slK_lst⟩, ⟨@e_slK_str, @e_itsK_lst⟩⟩, ⟨⟨@e_itsK_tup, @e_zipK_lst⟩, ⟨@e_zipK_tup, ⟨@e_ran1K_int, @e_ran2K_int⟩⟩⟩⟩⟩, ⟨⟨⟨⟨@e_goLtA_int, @e_goEq_int⟩, ⟨@e_goNe_int, @e_goEq_bl⟩⟩, ⟨⟨@e_goNe_bl, @isi_non_int⟩, ⟨@isi_non_bool, @isi_non_str⟩⟩⟩, ⟨⟨⟨@isi_non_tuple, @isi_non_list⟩, ⟨@isi_non_dict, @isi_bl_int⟩⟩, ⟨⟨@isi_bl_bool, @isi_bl_str⟩, ⟨@isi_bl_tuple, ⟨@isi_bl_list, @isi_bl_dict⟩⟩⟩⟩⟩⟩⟩⟩, ⟨⟨⟨⟨⟨⟨⟨@isi_int_int, @isi_int_bool⟩, ⟨@isi_int_str, @isi_int_tuple⟩⟩, ⟨⟨@isi_int_list, @isi_int_dict⟩, ⟨@isi_str_int, @isi_str_bool⟩⟩⟩, ⟨⟨⟨@isi_str_str, @isi_str_tuple⟩, ⟨@isi_str_list, @isi_str_dict⟩⟩, ⟨⟨@isi_tup_int, @isi_tup_bool⟩, ⟨@isi_tup_str, @isi_tup_tuple⟩⟩⟩⟩, ⟨⟨⟨⟨@isi_tup_list, @isi_tup_dict⟩, ⟨@isi_lst_int, @isi_lst_bool⟩⟩, ⟨⟨@isi_lst_str, @isi_lst_tuple⟩, ⟨@isi_lst_list, @isi_lst_dict⟩⟩⟩, ⟨⟨⟨@isi_dic_int, @isi_dic_bool⟩, ⟨@isi_dic_str, @isi_dic_tuple⟩⟩, ⟨⟨@isi_dic_list, @isi_dic_dict⟩, ⟨@e_goEq_str, ⟨@e_goNe_str, @e_goEq_tup⟩⟩⟩⟩⟩⟩, ⟨⟨⟨⟨⟨@e_goNe_tup, @e_goEq_lst⟩, ⟨@e_goNe_lst, @e_goEq_non⟩⟩, ⟨⟨@e_goNe_non, @e_gAndV_k⟩, ⟨@e_gOrV_k, @e_gCh_k⟩⟩⟩, ⟨⟨⟨@sz0, @se0⟩, ⟨@sz1, @se1⟩⟩, ⟨⟨@sz2, @se2⟩, ⟨@sz3, ⟨@se3, @sz4⟩⟩⟩⟩⟩, ⟨⟨⟨⟨@se4, @sz5⟩, ⟨@se5, @sz6⟩⟩, ⟨⟨@se6, @sz7⟩, ⟨@se7, @sz8⟩⟩⟩, ⟨⟨⟨@se8, @sz9⟩, ⟨@se9, @e_gFld⟩⟩, ⟨⟨@e_fldK_ref, @e_gPutF⟩, ⟨@e_gPutFM, ⟨@e_putFK_ref, @e_gDrf⟩⟩⟩⟩⟩⟩⟩, ⟨⟨⟨⟨⟨⟨@e_drfK_ref, @e_gMApp⟩, ⟨@e_mlK_ref, @e_gMPop⟩⟩, ⟨⟨@e_popK_int, @e_gMIns⟩, ⟨@e_gMeth, @e_mthK_ref⟩⟩⟩, ⟨⟨⟨@e_gMake, @e_giR3⟩, ⟨@e_gFlR1, @e_gFlR2⟩⟩, ⟨⟨@e_rg2K_int, @e_gLenSet⟩, ⟨@e_gMinD, ⟨@e_giMem, @e_giBA⟩⟩⟩⟩⟩, ⟨⟨⟨⟨@e_gMIdx, @e_goTab⟩, ⟨@e_gFsort, @e_gStep⟩⟩, ⟨⟨@e_stepK_lst, @e_gAppM⟩, ⟨@e_gDictV, @e_gFdict⟩⟩⟩, ⟨⟨⟨@e_dictK_lst, @e_dictK_tup⟩, ⟨@e_dictK_dic, @e_gDic0⟩⟩, ⟨⟨@e_gFdic0, @e_gDGet1⟩, ⟨@e_gDGet2, ⟨@e_dicK_dic, @e_gOPut⟩⟩⟩⟩⟩⟩, ⟨⟨⟨⟨⟨@e_gOPop, @e_giKeys⟩, ⟨@e_gPconsI, @e_gDispV⟩⟩, ⟨⟨@e_goIx_dic, @e_gcLen_dic⟩, ⟨@e_lstK_dic, @e_truK_dic⟩⟩⟩, ⟨⟨⟨@e_gOIns, @e_gCallL⟩, ⟨@e_gAct, @e_gxAct⟩⟩, ⟨⟨@e_gxV, @e_gItemsT⟩, ⟨@e_gFvals, ⟨@e_giItems, @e_gFsortD⟩⟩⟩⟩⟩, ⟨⟨⟨⟨@e_sortDK_dic, @e_gIxO⟩, ⟨@e_gFaddO, @e_gtLst⟩⟩, ⟨⟨@e_gPopS, @e_gExtT⟩, ⟨@e_gAugF, @e_gFcat⟩⟩⟩, ⟨⟨⟨@e_catK_lst, @e_gxMeth⟩, ⟨@e_gxMake, @e_gxIx⟩⟩, ⟨⟨@e_gxIf, @e_gsSet⟩, ⟨@e_gsExpr, ⟨@e_gsIf, @e_gTryS⟩⟩⟩⟩⟩⟩⟩⟩⟩
end DL
set_option Elab.async false
set_option linter.all false
set_option maxRecDepth 100000
set_option maxHeartbeats 2000000
namespace DL
open PySem PySem.Spec PySem.W PyProof.Rows L2
section
variable {X : Cx} {w p w1 w2 : Bool} {o e a b c k : Expr} {es : List Expr} {g ga gb ge go gk : GE} {gs : GA} {B : Addr → Prop} {E : En} {σ : L2.St} {H H' : Hp} {r : DL.Fr} {M M' : Mem} {O O' : Own} {pos pos' apos cpos : Pos}
/-- x.update(e), x the slot's own dict -/
def gOUpd (i : Nat) (ge : GE) : GS := fun D r M => match r.sl[i]? with
  | some (.o (.dic kds)) => ge r M fun e M1 => dicK e fun more => kds.length + more.length ≤ sizeLine ∧ D.nx (r.set i (.o (.dic (mergeD kds more)))) M1
  | _ => False
/-- {k: v, ..}, the keys whatever tells a number or a text -/
def gPconsE (gk g : GE) (gs : GPs) : GPs := fun r M Q => gk r M fun e M0 => ∃ key, keyD e = some key ∧ g r M0 fun d M1 => gs r M1 fun kds M2 => Q ((key, d) :: kds) M2
theorem e_gOUpd {i : Nat} {ge : GE} {D : DEnds} {r : DL.Fr} {M : Mem} : gOUpd i ge D r M = (match r.sl[i]? with
  | some (.o (.dic kds)) => ge r M fun e M1 => dicK e fun more => kds.length + more.length ≤ sizeLine ∧ D.nx (r.set i (.o (.dic (mergeD kds more)))) M1
  | _ => False) := propext Iff.rfl
theorem e_gPconsE {gk g : GE} {gs : GPs} {r : DL.Fr} {M : Mem} {Q : List (Key × D) → Mem → Prop} : gPconsE gk g gs r M Q = (gk r M fun e M0 => ∃ key, keyD e = some key ∧ g r M0 fun d M1 => gs r M1 fun kds M2 => Q ((key, d) :: kds) M2) := propext Iff.rfl
end
end DL
set_option Elab.async false
set_option linter.all false
set_option maxRecDepth 100000
set_option maxHeartbeats 2000000
namespace DL
open PySem PySem.Spec PySem.W PyProof.Rows L2
def dPr (p : Int × Int) : D := .tup [.int p.1, .int p.2]
def ltPr (p q : Int × Int) : Prop := p.1 < q.1 ∨ p.1 = q.1 ∧ p.2 < q.2
section
variable {X : Cx} {B : Addr → Prop} {E : En} {σ : L2.St} {H : Hp} {r : DL.Fr} {M : Mem} {O : Own}
/-- min([..]) of pairs -/
def gcMinP : GC := fun ds M Q => match ds with
  | [.lst xs] => ∃ ps : List (Int × Int), xs = ps.map dPr ∧ ps ≠ [] ∧ ∀ m ∈ ps, (∀ y ∈ ps, ¬ ltPr y m) → Q (dPr m) M
  | _ => False
theorem gcMinP_1 {xs : List D} {M : Mem} {Q : D → Mem → Prop} : gcMinP [.lst xs] M Q = (∃ ps : List (Int × Int), xs = ps.map dPr ∧ ps ≠ [] ∧ ∀ m ∈ ps, (∀ y ∈ ps, ¬ ltPr y m) → Q (dPr m) M) := propext Iff.rfl
end
end DL
set_option Elab.async false
set_option linter.all false
set_option maxRecDepth 100000
namespace DL
open PySem PySem.Spec PySem.W PyProof.Rows L2
theorem RB17 : ((((((((type_of% @e_gSeq ∧ type_of% @e_gSet) ∧ (type_of% @e_gRet ∧ type_of% @e_gRetN)) ∧ ((type_of% @e_gNext ∧ type_of% @e_gIfS) ∧ (type_of% @e_gDrop ∧ type_of% @e_gOwn))) ∧ (((type_of% @e_gApp ∧ type_of% @e_gExt) ∧ (type_of% @e_gForM ∧ type_of% @e_gLcM)) ∧ ((type_of% @e_gCnt ∧ type_of% @e_gTryV) ∧ (type_of% @e_gTryE ∧ (type_of% @e_gxP ∧ type_of% @e_gxM))))) ∧ ((((type_of% @e_gIPut ∧ type_of% @e_gFrz) ∧ (type_of% @e_gAsg ∧ type_of% @e_gPar)) ∧ ((type_of% @e_gPar3 ∧ type_of% @e_gAug) ∧ (type_of% @e_gRaise ∧ type_of% @e_gRetM))) ∧ (((type_of% @e_gSetM ∧ type_of% @e_gMPut) ∧ (type_of% @e_gMGet ∧ type_of% @e_g1)) ∧ ((type_of% @e_g2 ∧ type_of% @e_gC) ∧ (type_of% @e_gV ∧ (type_of% @e_gVw ∧ type_of% @e_gB)))))) ∧ (((((type_of% @e_gAnd ∧ type_of% @e_gOr) ∧ (type_of% @e_gNot ∧ type_of% @e_gNotV)) ∧ ((type_of% @e_gIf ∧ type_of% @e_DL_gCons) ∧ (type_of% @e_DL_gNil ∧ type_of% @e_DL_gTup))) ∧ (((type_of% @e_DL_gLst ∧ type_of% @e_gFl) ∧ (type_of% @e_gFd ∧ type_of% @e_gCa)) ∧ ((type_of% @e_gLenS ∧ type_of% @e_gPart) ∧ (type_of% @e_gNoP ∧ (type_of% @e_gDisp ∧ type_of% @e_gPcons))))) ∧ ((((type_of% @e_gPnil ∧ type_of% @e_gtN) ∧ (type_of% @e_gtTup ∧ type_of% @e_gtCons)) ∧ ((type_of% @e_gtNil ∧ type_of% @e_gYes) ∧ (type_of% @e_gFor ∧ type_of% @e_gLc))) ∧ (((type_of% @e_giS ∧ type_of% @e_gCallP) ∧ (type_of% @e_gCallM ∧ type_of% @e_gScr)) ∧ ((type_of% @e_gIdx ∧ type_of% @e_goAdd_int) ∧ (type_of% @e_goAdd_str ∧ (type_of% @e_goAdd_tup ∧ type_of% @e_goAdd_lst))))))) ∧ ((((((type_of% @e_goAddW_int ∧ type_of% @e_goAddW_lst) ∧ (type_of% @e_goPlus_int ∧ type_of% @e_goI_int)) ∧ ((type_of% @e_guI_int ∧ type_of% @e_gcI1_int) ∧ (type_of% @e_goIx_lst ∧ type_of% @e_gcLen_lst))) ∧ (((type_of% @e_gcTupleS_lst ∧ type_of% @e_gcList_lst) ∧ (type_of% @e_goRevA_lst ∧ type_of% @e_goIx_tup)) ∧ ((type_of% @e_gcLen_tup ∧ type_of% @e_gcTupleS_tup) ∧ (type_of% @e_gcList_tup ∧ (type_of% @e_goRevA_tup ∧ type_of% @e_gcTuple_lst))))) ∧ ((((type_of% @e_goIx_str ∧ type_of% @e_gcLen_str) ∧ (type_of% @e_gcInt_int ∧ type_of% @e_gcInt_bl)) ∧ ((type_of% @e_goMulT_tup ∧ type_of% @e_goMulL_lst) ∧ (type_of% @e_goIsB_bl ∧ type_of% @e_goIsN_non))) ∧ (((type_of% @isN_int ∧ type_of% @isN_bl) ∧ (type_of% @isN_str ∧ type_of% @isN_tup)) ∧ ((type_of% @isN_lst ∧ type_of% @isN_dic) ∧ (type_of% @isN_ref ∧ (type_of% @isN_ty ∧ type_of% @isN_non)))))) ∧ (((((type_of% @e_truK_non ∧ type_of% @e_truK_bl) ∧ (type_of% @e_truK_int ∧ type_of% @e_truK_lst)) ∧ ((type_of% @e_truK_tup ∧ type_of% @e_truK_str) ∧ (type_of% @e_lstK_lst ∧ type_of% @e_lstK_tup))) ∧ (((type_of% @e_slK_lst ∧ type_of% @e_slK_str) ∧ (type_of% @e_itsK_lst ∧ type_of% @e_itsK_tup)) ∧ ((type_of% @e_zipK_lst ∧ type_of% @e_zipK_tup) ∧ (type_of% @e_ran1K_int ∧ (type_of% @e_ran2K_int ∧ type_of% @e_goLtA_int))))) ∧ ((((type_of% @e_goEq_int ∧ type_of% @e_goNe_int) ∧ (type_of% @e_goEq_bl ∧ type_of% @e_goNe_bl)) ∧ ((type_of% @isi_non_int ∧ type_of% @isi_non_bool) ∧ (type_of% @isi_non_str ∧ type_of% @isi_non_tuple))) ∧ (((type_of% @isi_non_list ∧ type_of% @isi_non_dict) ∧ (type_of% @isi_bl_int ∧ type_of% @isi_bl_bool)) ∧ ((type_of% @isi_bl_str ∧ type_of% @isi_bl_tuple) ∧ (type_of% @isi_bl_list ∧ (type_of% @isi_bl_dict ∧ type_of% @isi_int_int)))))))) ∧ (((((((type_of% @isi_int_bool ∧ type_of% @isi_int_str) ∧ (type_of% @isi_int_tuple ∧ type_of% @isi_int_list)) ∧ ((type_of% @isi_int_dict ∧ type_of% @isi_str_int) ∧ (type_of% @isi_str_bool ∧ type_of% @isi_str_str))) ∧ (((type_of% @isi_str_tuple ∧ type_of% @isi_str_list) ∧ (type_of% @isi_str_dict ∧ type_of% @isi_tup_int)) ∧ ((type_of% @isi_tup_bool ∧ type_of% @isi_tup_str) ∧ (type_of% @isi_tup_tuple ∧ (type_of% @isi_tup_list ∧ type_of% @isi_tup_dict))))) ∧ ((((type_of% @isi_lst_int ∧ type_of% @isi_lst_bool) ∧ (type_of% @isi_lst_str ∧ type_of% @isi_lst_tuple)) ∧ ((type_of% @isi_lst_list ∧ type_of% @isi_lst_dict) ∧ (type_of% @isi_dic_int ∧ type_of% @isi_dic_bool))) ∧ (((type_of% @isi_dic_str ∧ type_of% @isi_dic_tuple) ∧ (type_of% @isi_dic_list ∧ type_of% @isi_dic_dict)) ∧ ((type_of% @e_goEq_str ∧ type_of% @e_goNe_str) ∧ (type_of% @e_goEq_tup ∧ (type_of% @e_goNe_tup ∧ type_of% @e_goEq_lst)))))) ∧ (((((type_of% @e_goNe_lst ∧ type_of% @e_goEq_non) ∧ (type_of% @e_goNe_non ∧ type_of% @e_gAndV_k)) ∧ ((type_of% @e_gOrV_k ∧ type_of% @e_gCh_k) ∧ (type_of% @sz0 ∧ type_of% @se0))) ∧ (((type_of% @sz1 ∧ type_of% @se1) ∧ (type_of% @sz2 ∧ type_of% @se2)) ∧ ((type_of% @sz3 ∧ type_of% @se3) ∧ (type_of% @sz4 ∧ (type_of% @se4 ∧ type_of% @sz5))))) ∧ ((((type_of% @se5 ∧ type_of% @sz6) ∧ (type_of% @se6 ∧ type_of% @sz7)) ∧ ((type_of% @se7 ∧ type_of% @sz8) ∧ (type_of% @se8 ∧ type_of% @sz9))) ∧ (((type_of% @se9 ∧ type_of% @e_gFld) ∧ (type_of% @e_fldK_ref ∧ type_of% @e_gPutF)) ∧ ((type_of% @e_gPutFM ∧ type_of% @e_putFK_ref) ∧ (type_of% @e_gDrf ∧ (type_of% @e_drfK_ref ∧ type_of% @e_gMApp))))))) ∧ ((((((type_of% @e_mlK_ref ∧ type_of% @e_gMPop) ∧ (type_of% @e_popK_int ∧ type_of% @e_gMIns)) ∧ ((type_of% @e_gMeth ∧ type_of% @e_mthK_ref) ∧ (type_of% @e_gMake ∧ type_of% @e_giR3))) ∧ (((type_of% @e_gFlR1 ∧ type_of% @e_gFlR2) ∧ (type_of% @e_rg2K_int ∧ type_of% @e_gLenSet)) ∧ ((type_of% @e_gMinD ∧ type_of% @e_giMem) ∧ (type_of% @e_giBA ∧ (type_of% @e_gMIdx ∧ type_of% @e_goTab))))) ∧ ((((type_of% @e_gFsort ∧ type_of% @e_gStep) ∧ (type_of% @e_stepK_lst ∧ type_of% @e_gAppM)) ∧ ((type_of% @e_gDictV ∧ type_of% @e_gFdict) ∧ (type_of% @e_dictK_lst ∧ type_of% @e_dictK_tup))) ∧ (((type_of% @e_dictK_dic ∧ type_of% @e_gDic0) ∧ (type_of% @e_gFdic0 ∧ type_of% @e_gDGet1)) ∧ ((type_of% @e_gDGet2 ∧ type_of% @e_dicK_dic) ∧ (type_of% @e_gOPut ∧ (type_of% @e_gOPop ∧ type_of% @e_giKeys)))))) ∧ (((((type_of% @e_gPconsI ∧ type_of% @e_gDispV) ∧ (type_of% @e_goIx_dic ∧ type_of% @e_gcLen_dic)) ∧ ((type_of% @e_lstK_dic ∧ type_of% @e_truK_dic) ∧ (type_of% @e_gOIns ∧ type_of% @e_gCallL))) ∧ (((type_of% @e_gAct ∧ type_of% @e_gxAct) ∧ (type_of% @e_gxV ∧ type_of% @e_gItemsT)) ∧ ((type_of% @e_gFvals ∧ type_of% @e_giItems) ∧ (type_of% @e_gFsortD ∧ (type_of% @e_sortDK_dic ∧ type_of% @e_gIxO))))) ∧ ((((type_of% @e_gFaddO ∧ type_of% @e_gtLst) ∧ (type_of% @e_gPopS ∧ type_of% @e_gExtT)) ∧ ((type_of% @e_gAugF ∧ type_of% @e_gFcat) ∧ (type_of% @e_catK_lst ∧ type_of% @e_gxMeth))) ∧ (((type_of% @e_gxMake ∧ type_of% @e_gxIx) ∧ (type_of% @e_gxIf ∧ type_of% @e_gsSet)) ∧ ((type_of% @e_gsExpr ∧ type_of% @e_gsIf) ∧ (type_of% @e_gTryS ∧ (type_of% @e_gOUpd ∧ type_of% @e_gPconsE))))))))) := ⟨⟨⟨⟨⟨⟨⟨⟨@e_gSeq, @e_gSet⟩, ⟨@e_gRet, @e_gRetN⟩⟩, ⟨⟨@e_gNext, @e_gIfS⟩, ⟨@e_gDrop, @e_gOwn⟩⟩⟩, ⟨⟨⟨@e_gApp, @e_gExt⟩, ⟨@e_gForM, @e_gLcM⟩⟩, ⟨⟨@e_gCnt, @e_gTryV⟩, ⟨@e_gTryE, ⟨@e_gxP, @e_gxM⟩⟩⟩⟩⟩, ⟨⟨⟨⟨@e_gIPut, @e_gFrz⟩, ⟨@e_gAsg, @e_gPar⟩⟩, ⟨⟨@e_gPar3, @e_gAug⟩, ⟨@e_gRaise, @e_gRetM⟩⟩⟩, ⟨⟨⟨@e_gSetM, @e_gMPut⟩, ⟨@e_gMGet, @e_g1⟩⟩, ⟨⟨@e_g2, @e_gC⟩, ⟨@e_gV, ⟨@e_gVw, @e_gB⟩⟩⟩⟩⟩⟩, ⟨⟨⟨⟨⟨@e_gAnd, @e_gOr⟩, ⟨@e_gNot, @e_gNotV⟩⟩, ⟨⟨@e_gIf, @e_DL_gCons⟩, ⟨@e_DL_gNil, @e_DL_gTup⟩⟩⟩, ⟨⟨⟨@e_DL_gLst, @e_gFl⟩, ⟨@e_gFd, @e_gCa⟩⟩, ⟨⟨@e_gLenS, @e_gPart⟩, ⟨@e_gNoP, ⟨@e_gDisp, @e_gPcons⟩⟩⟩⟩⟩, ⟨⟨⟨⟨@e_gPnil, @e_gtN⟩, ⟨@e_gtTup, @e_gtCons⟩⟩, ⟨⟨@e_gtNil, @e_gYes⟩, ⟨@e_gFor, @e_gLc⟩⟩⟩, ⟨⟨⟨@e_giS, @e_gCallP⟩, ⟨@e_gCallM, @e_gScr⟩⟩, ⟨⟨@e_gIdx, @e_goAdd_int⟩, ⟨@e_goAdd_str, ⟨@e_goAdd_tup, @e_goAdd_lst⟩⟩⟩⟩⟩⟩⟩, ⟨⟨⟨⟨⟨⟨@e_goAddW_int, @e_goAddW_lst⟩, ⟨@e_goPlus_int, @e_goI_int⟩⟩, ⟨⟨@e_guI_int, @e_gcI1_int⟩, ⟨@e_goIx_lst, @e_gcLen_lst⟩⟩⟩, ⟨⟨⟨@e_gcTupleS_lst, @e_gcList_lst⟩, ⟨@e_goRevA_lst, @e_goIx_tup⟩⟩, ⟨⟨@e_gcLen_tup, @e_gcTupleS_tup⟩, ⟨@e_gcList_tup, ⟨@e_goRevA_tup, @e_gcTuple_lst⟩⟩⟩⟩⟩, ⟨⟨⟨⟨@e_goIx_str, @e_gcLen_str⟩, ⟨@e_gcInt_int, @e_gcInt_bl⟩⟩, ⟨⟨@e_goMulT_tup, @e_goMulL_lst⟩, ⟨@e_goIsB_bl, @e_goIsN_non⟩⟩⟩, ⟨⟨⟨@isN_int, @isN_bl⟩, ⟨@isN_str, @isN_tup⟩⟩, ⟨⟨@isN_lst, @isN_dic⟩, ⟨@isN_ref, ⟨@isN_ty, @isN_non⟩⟩⟩⟩⟩⟩, ⟨⟨⟨⟨⟨@e_truK_non, @e_truK_bl⟩, ⟨@e_truK_int, @e_truK_lst⟩⟩, ⟨⟨@e_truK_tup, @e_truK_str⟩, ⟨@e_lstK_lst, @e_lstK_tup⟩⟩⟩, ⟨⟨⟨@e_slK_lst, @e_slK_str⟩, ⟨@e_itsK_lst, @e_itsK_tup⟩⟩, ⟨⟨@e_zipK_lst, @e_zipK_tup⟩, ⟨@e_ran1K_int, ⟨@e_ran2K_int, @e_goLtA_int⟩⟩⟩⟩⟩, ⟨⟨⟨⟨@e_goEq_int, @e_goNe_int⟩, ⟨@e_goEq_bl, @e_goNe_bl⟩⟩, ⟨⟨@isi_non_int, @isi_non_bool⟩, ⟨@isi_non_str, @isi_non_tuple⟩⟩⟩, ⟨⟨⟨@isi_non_list, @isi_non_dict⟩, ⟨@isi_bl_int, @isi_bl_bool⟩⟩, ⟨⟨@isi_bl_str, @isi_bl_tuple⟩, ⟨@isi_bl_list, ⟨@isi_bl_dict, @isi_int_int⟩⟩⟩⟩⟩⟩⟩⟩, ⟨⟨⟨⟨⟨⟨⟨@isi_int_bool, @isi_int_str⟩, ⟨@isi_int_tuple, @isi_int_list⟩⟩, ⟨⟨@isi_int_dict, @isi_str_int⟩, ⟨@isi_str_bool, @isi_str_str⟩⟩⟩, ⟨⟨⟨@isi_str_tuple, @isi_str_list⟩, ⟨@isi_str_dict, @isi_tup_int⟩⟩, ⟨⟨@isi_tup_bool, @isi_tup_str⟩, ⟨@isi_tup_tuple, ⟨@isi_tup_list, @isi_tup_dict⟩⟩⟩⟩⟩, ⟨⟨⟨⟨@isi_lst_int, @isi_lst_bool⟩, ⟨@isi_lst_str, @isi_lst_tuple⟩⟩, ⟨⟨@isi_lst_list, @isi_lst_dict⟩, ⟨@isi_dic_int, @isi_dic_bool⟩⟩⟩, ⟨⟨⟨@isi_dic_str, @isi_dic_tuple⟩, ⟨@isi_dic_list, @isi_dic_dict⟩⟩, ⟨⟨@e_goEq_str, @e_goNe_str⟩, ⟨@e_goEq_tup, ⟨@e_goNe_tup, @e_goEq_lst⟩⟩⟩⟩⟩⟩, ⟨⟨⟨⟨⟨@e_goNe_lst, @e_goEq_non⟩, ⟨@e_goNe_non, @e_gAndV_k⟩⟩, ⟨⟨@e_gOrV_k, @e_gCh_k⟩, ⟨@sz0, @se0⟩⟩⟩, ⟨⟨⟨@sz1, @se1⟩, ⟨@sz2, @se2⟩⟩, ⟨⟨@sz3, @se3⟩, ⟨@sz4, ⟨@se4, @sz5⟩⟩⟩⟩⟩, ⟨⟨⟨⟨@se5, @sz6⟩, ⟨@se6, @sz7⟩⟩, ⟨⟨@se7, @sz8⟩, ⟨@se8, @sz9⟩⟩⟩, ⟨⟨⟨@se9, @e_gFld⟩, ⟨@e_fldK_ref, @e_gPutF⟩⟩, ⟨⟨@e_gPutFM, @e_putFK_ref⟩, ⟨@e_gDrf, ⟨@e_drfK_ref, @e_gMApp⟩⟩⟩⟩⟩⟩⟩, ⟨⟨⟨⟨⟨⟨@e_mlK_ref, @e_gMPop⟩, ⟨@e_popK_int, @e_gMIns⟩⟩, ⟨⟨@e_gMeth, @e_mthK_ref⟩, ⟨@e_gMake, @e_giR3⟩⟩⟩, ⟨⟨⟨@e_gFlR1, @e_gFlR2⟩, ⟨@e_rg2K_int, @e_gLenSet⟩⟩, ⟨⟨@e_gMinD, @e_giMem⟩, ⟨@e_giBA, ⟨@e_gMIdx, @e_goTab⟩⟩⟩⟩⟩, ⟨⟨⟨⟨@e_gFsort, @e_gStep⟩, ⟨@e_stepK_lst, @e_gAppM⟩⟩, ⟨⟨@e_gDictV, @e_gFdict⟩, ⟨@e_dictK_lst, @e_dictK_tup⟩⟩⟩, ⟨⟨⟨@e_dictK_dic, @e_gDic0⟩, ⟨@e_gFdic0, @e_gDGet1⟩⟩, ⟨⟨@e_gDGet2, @e_dicK_dic⟩, ⟨@e_gOPut, ⟨@e_gOPop, @e_giKeys⟩⟩⟩⟩⟩⟩, ⟨⟨⟨⟨⟨@e_gPconsI, @e_gDispV⟩, ⟨@e_goIx_dic, @e_gcLen_dic⟩⟩, ⟨⟨@e_lstK_dic, @e_truK_dic⟩, ⟨@e_gOIns, @e_gCallL⟩⟩⟩, ⟨⟨⟨@e_gAct, @e_gxAct⟩, ⟨@e_gxV, @e_gItemsT⟩⟩, ⟨⟨@e_gFvals, @e_giItems⟩, ⟨@e_gFsortD, ⟨@e_sortDK_dic, @e_gIxO⟩⟩⟩⟩⟩, ⟨⟨⟨⟨@e_gFaddO, @e_gtLst⟩, ⟨@e_gPopS, @e_gExtT⟩⟩, ⟨⟨@e_gAugF, @e_gFcat⟩, ⟨@e_catK_lst, @e_gxMeth⟩⟩⟩, ⟨⟨⟨@e_gxMake, @e_gxIx⟩, ⟨@e_gxIf, @e_gsSet⟩⟩, ⟨⟨@e_gsExpr, @e_gsIf⟩, ⟨@e_gTryS, ⟨@e_gOUpd, @e_gPconsE⟩⟩⟩⟩⟩⟩⟩⟩⟩
end DL
set_option Elab.async false
set_option linter.all false
set_option maxRecDepth 100000
set_option maxHeartbeats 2000000
namespace DL
open PySem PySem.Spec PySem.W PyProof.Rows L2
end DL
set_option Elab.async false
set_option linter.all false
set_option maxRecDepth 100000
namespace DL
open PySem PySem.Spec PySem.W PyProof.Rows L2
end DL
set_option Elab.async false
set_option linter.all false
set_option maxRecDepth 100000
namespace DL
open PySem PySem.Spec PySem.W PyProof.Rows L2
end DL
namespace LW
open PySem PySem.Spec PySem.W PyProof.Rows L2 DL
local macro_rules | `(tactic| wp_walk) => `(tactic| simp only [gSeq, gSet, gRet, gRetN, gNext, gIfS, gDrop, gOwn, gApp, gExt, gForM, gLcM, gCnt, gTryV, gTryE, gxP, gxM, DL.Fr.mute, gIPut, gFrz, frz, gAsg, gPar, gPar3, gAug, gRaise, gRetM, gSetM, gMPut, gMGet, g1, g2, gC, gV, gVw, gB, gAnd, gOr, gNot, gNotV, gIf, DL.gCons, DL.gNil, DL.gTup, DL.gLst, gFl, gFd, gCa, gLenS, gPart, gNoP, gDisp, gPcons, gPnil, gtN, gtTup, gtCons, gtNil, gYes, gFor, gLc, giS, gCallP, gCallM, gScr, entry, aSls, aSl, DL.Fr.set, OM.d, wipeF, wipeS, keyD, List.length_cons, List.length_nil, List.cons_append, List.nil_append, List.append_nil, List.replicate_succ, List.replicate_zero, List.getElem?_cons_zero, List.getElem?_cons_succ, List.getElem?_nil, List.set_cons_zero, List.set_cons_succ, Nat.reduceAdd, Nat.reduceSub, if_true, if_false, ite_true, ite_false, reduceIte, Bool.false_eq_true, Bool.not_true, Bool.not_false, List.all_cons, List.all_nil, Bool.and_true, true_and, and_true, List.map_cons, List.map_nil, gIdx, ixT_ints, intsOf_map, Int.reduceToNat, Option.some.injEq, exists_eq_left', goAdd_int, goAdd_str, goAdd_tup, goAdd_lst, goAddW_int, goAddW_lst, goPlus_int, goI_int, guI_int, gcI1_int, goIx_lst, gcLen_lst, gcTupleS_lst, gcList_lst, goRevA_lst, goIx_tup, gcLen_tup, gcTupleS_tup, gcList_tup, goRevA_tup, gcTuple_lst, goIx_str, gcLen_str, gcInt_int, gcInt_bl, goMulT_tup, goMulL_lst, goIsB_bl, goIsN_non, isN_int, isN_bl, isN_str, isN_tup, isN_lst, isN_dic, isN_ref, isN_ty, isN_non, gTru_k, truK_non, truK_bl, truK_int, truK_lst, truK_tup, truK_str, gFlist_k, lstK_lst, lstK_tup, gsSl_k, slK_lst, slK_tup, slK_str, itsD_k, itsK_lst, itsK_tup, giZip_k, zipK_lst, zipK_tup, giR1_k, ran1K_nat, ran1K_int, giR2_k, ran2K_int, goLtA_int, goLtA_tup, ok_non, eqv_bl, goEq_int, goNe_int, goEq_bl, goNe_bl, gcMin_ints, gcMinT_ints, gcMax_ints, gcMaxT_ints, intsOf_mapf, blsOf_mapf, gcMin_f, gcMax_f, gcMin_2, gcMax_2, gcSum_ints, gcSum_f, gcBls_f, all_mapid, any_mapid, at_0, at_1, at_2, at_3, at_last, noOwn_nil, noOwn_1, noOwn_2, nof_n, nof_v, nof_b, nof_s, zipD_map, enumD_map, isi_non_int, isi_non_bool, isi_non_str, isi_non_tuple, isi_non_list, isi_non_dict, isi_bl_int, isi_bl_bool, isi_bl_str, isi_bl_tuple, isi_bl_list, isi_bl_dict, isi_int_int, isi_int_bool, isi_int_str, isi_int_tuple, isi_int_list, isi_int_dict, isi_str_int, isi_str_bool, isi_str_str, isi_str_tuple, isi_str_list, isi_str_dict, isi_tup_int, isi_tup_bool, isi_tup_str, isi_tup_tuple, isi_tup_list, isi_tup_dict, isi_lst_int, isi_lst_bool, isi_lst_str, isi_lst_tuple, isi_lst_list, isi_lst_dict, isi_dic_int, isi_dic_bool, isi_dic_str, isi_dic_tuple, isi_dic_list, isi_dic_dict, gcAll, gcAny, goMod, goFdiv, decide_eq_true_eq, Bool.not_eq_true', decide_eq_false_iff_not, ite_not, Bool.and_eq_true, not_false_eq_true, Bool.not_eq_true, List.map_append, Int.zero_add, List.any_cons, List.any_nil, Bool.true_and, Bool.or_false, Bool.xor_false, Bool.false_xor, Bool.true_xor, Bool.not_not, forall_const, Int.toNat_natCast, List.length_map, List.length_append, and_self, ne_eq, List.map_eq_nil_iff, not_true_eq_false, eq_self, goMulI, goSub, goPow, goLe, goGt, goGe, guNeg, gcAbs, goEq_str, goNe_str, goEq_tup, goNe_tup, goEq_lst, goNe_lst, goEq_non, goNe_non, gAndV_k, gOrV_k, gCh_k, blK_bl, ite_bf, reduceCtorEq, Int.reducePow, Int.reduceLT, Int.reduceLE, Int.reduceNeg, sz0, se0, sz1, se1, sz2, se2, sz3, se3, sz4, se4, sz5, se5, sz6, se6, sz7, se7, sz8, se8, sz9, se9, gFld, fldK_ref, gPutF, gPutFM, putFK_ref, gDrf, drfK_ref, gMApp, mlK_ref, gMPop, popK_int, gMIns, ins2K_2, insK_int, gMeth, mthK_ref, gMake, giR3, gFlR1, gFlR2, rg2K_int, gLenSet, lenSetK_lst, lenSetK_tup, gMinD, minDK_lst, giMem, giBA, gMIdx, goTab, gFsort, sortK_lst, sortK_tup])
local macro_rules | `(tactic| wp_walk using $ts,*) => `(tactic| simp only [$[$ts:term],*, gSeq, gSet, gRet, gRetN, gNext, gIfS, gDrop, gOwn, gApp, gExt, gForM, gLcM, gCnt, gTryV, gTryE, gxP, gxM, DL.Fr.mute, gIPut, gFrz, frz, gAsg, gPar, gPar3, gAug, gRaise, gRetM, gSetM, gMPut, gMGet, g1, g2, gC, gV, gVw, gB, gAnd, gOr, gNot, gNotV, gIf, DL.gCons, DL.gNil, DL.gTup, DL.gLst, gFl, gFd, gCa, gLenS, gPart, gNoP, gDisp, gPcons, gPnil, gtN, gtTup, gtCons, gtNil, gYes, gFor, gLc, giS, gCallP, gCallM, gScr, entry, aSls, aSl, DL.Fr.set, OM.d, wipeF, wipeS, keyD, List.length_cons, List.length_nil, List.cons_append, List.nil_append, List.append_nil, List.replicate_succ, List.replicate_zero, List.getElem?_cons_zero, List.getElem?_cons_succ, List.getElem?_nil, List.set_cons_zero, List.set_cons_succ, Nat.reduceAdd, Nat.reduceSub, if_true, if_false, ite_true, ite_false, reduceIte, Bool.false_eq_true, Bool.not_true, Bool.not_false, List.all_cons, List.all_nil, Bool.and_true, true_and, and_true, List.map_cons, List.map_nil, gIdx, ixT_ints, intsOf_map, Int.reduceToNat, Option.some.injEq, exists_eq_left', goAdd_int, goAdd_str, goAdd_tup, goAdd_lst, goAddW_int, goAddW_lst, goPlus_int, goI_int, guI_int, gcI1_int, goIx_lst, gcLen_lst, gcTupleS_lst, gcList_lst, goRevA_lst, goIx_tup, gcLen_tup, gcTupleS_tup, gcList_tup, goRevA_tup, gcTuple_lst, goIx_str, gcLen_str, gcInt_int, gcInt_bl, goMulT_tup, goMulL_lst, goIsB_bl, goIsN_non, isN_int, isN_bl, isN_str, isN_tup, isN_lst, isN_dic, isN_ref, isN_ty, isN_non, gTru_k, truK_non, truK_bl, truK_int, truK_lst, truK_tup, truK_str, gFlist_k, lstK_lst, lstK_tup, gsSl_k, slK_lst, slK_tup, slK_str, itsD_k, itsK_lst, itsK_tup, giZip_k, zipK_lst, zipK_tup, giR1_k, ran1K_nat, ran1K_int, giR2_k, ran2K_int, goLtA_int, goLtA_tup, ok_non, eqv_bl, goEq_int, goNe_int, goEq_bl, goNe_bl, gcMin_ints, gcMinT_ints, gcMax_ints, gcMaxT_ints, intsOf_mapf, blsOf_mapf, gcMin_f, gcMax_f, gcMin_2, gcMax_2, gcSum_ints, gcSum_f, gcBls_f, all_mapid, any_mapid, at_0, at_1, at_2, at_3, at_last, noOwn_nil, noOwn_1, noOwn_2, nof_n, nof_v, nof_b, nof_s, zipD_map, enumD_map, isi_non_int, isi_non_bool, isi_non_str, isi_non_tuple, isi_non_list, isi_non_dict, isi_bl_int, isi_bl_bool, isi_bl_str, isi_bl_tuple, isi_bl_list, isi_bl_dict, isi_int_int, isi_int_bool, isi_int_str, isi_int_tuple, isi_int_list, isi_int_dict, isi_str_int, isi_str_bool, isi_str_str, isi_str_tuple, isi_str_list, isi_str_dict, isi_tup_int, isi_tup_bool, isi_tup_str, isi_tup_tuple, isi_tup_list, isi_tup_dict, isi_lst_int, isi_lst_bool, isi_lst_str, isi_lst_tuple, isi_lst_list, isi_lst_dict, isi_dic_int, isi_dic_bool, isi_dic_str, isi_dic_tuple, isi_dic_list, isi_dic_dict, gcAll, gcAny, goMod, goFdiv, decide_eq_true_eq, Bool.not_eq_true', decide_eq_false_iff_not, ite_not, Bool.and_eq_true, not_false_eq_true, Bool.not_eq_true, List.map_append, Int.zero_add, List.any_cons, List.any_nil, Bool.true_and, Bool.or_false, Bool.xor_false, Bool.false_xor, Bool.true_xor, Bool.not_not, forall_const, Int.toNat_natCast, List.length_map, List.length_append, and_self, ne_eq, List.map_eq_nil_iff, not_true_eq_false, eq_self, goMulI, goSub, goPow, goLe, goGt, goGe, guNeg, gcAbs, goEq_str, goNe_str, goEq_tup, goNe_tup, goEq_lst, goNe_lst, goEq_non, goNe_non, gAndV_k, gOrV_k, gCh_k, blK_bl, ite_bf, reduceCtorEq, Int.reducePow, Int.reduceLT, Int.reduceLE, Int.reduceNeg, sz0, se0, sz1, se1, sz2, se2, sz3, se3, sz4, se4, sz5, se5, sz6, se6, sz7, se7, sz8, se8, sz9, se9, gFld, fldK_ref, gPutF, gPutFM, putFK_ref, gDrf, drfK_ref, gMApp, mlK_ref, gMPop, popK_int, gMIns, ins2K_2, insK_int, gMeth, mthK_ref, gMake, giR3, gFlR1, gFlR2, rg2K_int, gLenSet, lenSetK_lst, lenSetK_tup, gMinD, minDK_lst, giMem, giBA, gMIdx, goTab, gFsort, sortK_lst, sortK_tup])
section
variable {K : PySem.W.Frag}
/-- what a choosing may take -/
def preTake (r : List D) : Prop := ∃ m : Int, r = [.int m] ∧ 1 ≤ m ∧ m ≤ 1000001
def postTake (r : List D) (d : D) : Prop := ∃ m n : Int, r = [.int m] ∧ d = .int n ∧ 0 ≤ n ∧ n < m
def fs_l_begun (K : PySem.W.Frag) : FS := BegunF
theorem mo_l_begun : MonoF BegunR := begunR_mono
/-- _law_begun -/
def g_l_begun (K : PySem.W.Frag) : GS := gRetM (gDisp (gPcons "cells" (gFd (gLc (giS 0) (gtN 1) (gYes) (gCa gcAbs (gCons (gV 1) gNil)) [1])) (gPcons "at" (gC (.int 0)) (gPcons "rest" (gC (.int 0)) (gPcons "turn" (gC (.int 0)) (gPcons "more" (g2 goAdd (gC (.int 7)) (gLenS 0)) (gPnil)))))))
theorem v_cells {ns : List Int} {a r t m : Int} : valD (stD ns a r t m) (.inr "cells") = some (.lst (ns.map .int)) := rfl
theorem v_at {ns : List Int} {a r t m : Int} : valD (stD ns a r t m) (.inr "at") = some (.int a) := rfl
theorem v_rest {ns : List Int} {a r t m : Int} : valD (stD ns a r t m) (.inr "rest") = some (.int r) := rfl
theorem v_turn {ns : List Int} {a r t m : Int} : valD (stD ns a r t m) (.inr "turn") = some (.int t) := rfl
theorem v_more {ns : List Int} {a r t m : Int} : valD (stD ns a r t m) (.inr "more") = some (.int m) := rfl
theorem p_at {ns : List Int} {a r t m x : Int} : putD (stD ns a r t m) (.inr "at") (.int x) = stD ns x r t m := rfl
theorem p_rest {ns : List Int} {a r t m x : Int} : putD (stD ns a r t m) (.inr "rest") (.int x) = stD ns a x t m := rfl
theorem p_turn {ns : List Int} {a r t m x : Int} : putD (stD ns a r t m) (.inr "turn") (.int x) = stD ns a r x m := rfl
theorem p_more {ns : List Int} {a r t m x : Int} : putD (stD ns a r t m) (.inr "more") (.int x) = stD ns a r t x := rfl
theorem st_len {ns : List Int} {a r t m : Int} : (stD ns a r t m).length < sizeLine := size_lt (by show 5 ≤ _; omega)
theorem h_l_begun : ∀ ds M Q X, BegunR ds M Q X → ds.length = ([.s] : List AK).length → g_l_begun K { nx := fun _ M' => Q .non M', rt := Q } (entry 2 [.s] ds X) M := by
  rintro ds M Q X ⟨ns, rfl, hl, q⟩ -
  wp_walk using g_l_begun, intsOf_map, goAdd
  refine lc_map (fun d => match d with | .int k => .int (if k < 0 then -k else k) | _ => .non) (fun d hd Q' q' => ?_) (size_of (by simp; omega)) ?_
  · obtain ⟨c, hc', rfl⟩ := List.mem_map.mp hd
    wp_walk
    exact q'
  · intro a na
    refine q a _ na ⟨ns.map fun k => if k < 0 then -k else k, 0, 0, 0, 7 + ns.length, ?_, by rw [List.length_map]; exact hl, fun n hn => ?_, by omega, by omega, by omega, by omega, by omega⟩
    · rw [List.nil_append, List.map_map]
      have e : ((fun d => match d with | .int k => D.int (if k < 0 then -k else k) | _ => .non) ∘ D.int) = D.int ∘ fun k => if k < 0 then -k else k := rfl
      rw [e, ← List.map_map]
      rfl
    · obtain ⟨k, _, rfl⟩ := List.mem_map.mp hn
      split <;> omega
def fs_l_take (K : PySem.W.Frag) : FS := DrawF preTake postTake
theorem mo_l_take : MonoF (RawF preTake postTake) := rawF_mono
/-- _law_take -/
def af1_l_take (K : PySem.W.Frag) : GS := gMPut (gV 0) (gC (.str "at")) (g2 goAdd (gMGet (gV 0) (gC (.str "at"))) (gC (.int 1)))
def lp1_l_take (K : PySem.W.Frag) : GS := gSeq (gIfS (gB (g2 goGe (g2 goIx (gV 2) (gMGet (gV 0) (gC (.str "at")))) (g2 goPow (gC (.int 10)) (gC (.int 18))))) (gMPut (gV 0) (gC (.str "rest")) (g2 goIx (gV 2) (gMGet (gV 0) (gC (.str "at"))))) (gNext)) (af1_l_take K)
def af2_l_take (K : PySem.W.Frag) : GS := gSeq (gMPut (gV 0) (gC (.str "turn")) (g2 goAdd (gMGet (gV 0) (gC (.str "turn"))) (gC (.int 1)))) (gSeq (gMPut (gV 0) (gC (.str "more")) (g2 goMod (g2 goAdd (g2 goAdd (g2 goMulI (gMGet (gV 0) (gC (.str "more"))) (gC (.int 48271))) (gV 4)) (gMGet (gV 0) (gC (.str "turn")))) (gC (.int 2147483647)))) (gRet (g2 goMod (g2 goMod (g2 goAdd (g2 goMulI (gMGet (gV 0) (gC (.str "more"))) (gMGet (gV 0) (gC (.str "more")))) (g2 goMulI (gC (.int 16807)) (gMGet (gV 0) (gC (.str "more"))))) (gC (.int 2147483629))) (gV 1))))
def af3_l_take (K : PySem.W.Frag) : GS := gSeq (gSet 4 (gC (.int 0))) (gSeq (gIfS (gB (g2 goGt (gCa gcLen (gCons (gV 2) gNil)) (gC (.int 0)))) (gSet 4 (g2 goIx (gV 2) (g2 goMod (gMGet (gV 0) (gC (.str "turn"))) (gCa gcLen (gCons (gV 2) gNil))))) (gNext)) (af2_l_take K))
def af4_l_take (K : PySem.W.Frag) : GS := gSeq (gIfS (gB (g2 goGt (gMGet (gV 0) (gC (.str "rest"))) (gC (.int 1)))) (gSeq (gSet 3 (g2 goMod (gMGet (gV 0) (gC (.str "rest"))) (gV 1))) (gSeq (gMPut (gV 0) (gC (.str "rest")) (g2 goFdiv (gMGet (gV 0) (gC (.str "rest"))) (gV 1))) (gRet (gV 3)))) (gNext)) (af3_l_take K)
def g_l_take (K : PySem.W.Frag) : GS := gSeq (gSet 2 (gMGet (gV 0) (gC (.str "cells")))) (gSeq (gWhile (gAnd (gB (g2 goLtA (gMGet (gV 0) (gC (.str "rest"))) (gC (.int 2)))) (gB (g2 goLtA (gMGet (gV 0) (gC (.str "at"))) (gCa gcLen (gCons (gV 2) gNil))))) (lp1_l_take K)) (af4_l_take K))
theorem h_l_take : ∀ ds M Q X, RawF preTake postTake ds M Q X → ds.length = ([.v, .v] : List AK).length → g_l_take K { nx := fun _ M' => Q .non M', rt := Q } (entry 5 [.v, .v] ds X) M := by
  rintro ds M Q X ⟨a, r, kds, rfl, ms, ⟨ns, at_, rest, turn, more, rfl, hl, hn, a0, r0, t0, m0, m1⟩, ⟨many, rfl, y0, y1⟩, q⟩ -
  have fin : ∀ (n : Int) (at_ rest turn more : Int), 0 ≤ n → n < many → 0 ≤ at_ → 0 ≤ rest → 0 ≤ turn → 0 ≤ more → more < 2147483648 → Q (.int n) (mup M a (.om (.dic (stD ns at_ rest turn more)))) :=
    fun n at_ rest turn more h1 h2 h3 h4 h5 h6 h7 => q _ _ ⟨many, n, rfl, rfl, h1, h2⟩ ⟨ns, at_, rest, turn, more, rfl, hl, hn, h3, h4, h5, h6, h7⟩
  wp_walk using g_l_take, ms, v_cells
  refine ⟨fun m r M' => ∃ at_ rest turn more : Int, M' = mup M a (.om (.dic (stD ns at_ rest turn more))) ∧ r = ⟨[.v (.ref a), .v (.int many), .v (.lst (ns.map .int)), .n, .n], X⟩ ∧ 0 ≤ at_ ∧ 0 ≤ rest ∧ 0 ≤ turn ∧ 0 ≤ more ∧ more < 2147483648 ∧ m = ((ns.length : Int) - at_).toNat,
    ⟨_, at_, rest, turn, more, (mup_self ms).symm, rfl, a0, r0, t0, m0, m1, rfl⟩, ?_⟩
  rintro m r M' ⟨at_, rest, turn, more, rfl, rfl, a0, r0, t0, m0, m1, rfl⟩
  have rest_ : af4_l_take K { nx := fun x M' => Q D.non M', rt := Q } ⟨[.v (.ref a), .v (.int many), .v (.lst (ns.map .int)), .n, .n], X⟩ (mup M a (.om (.dic (stD ns at_ rest turn more)))) := by
    wp_walk using af4_l_take, mup_same, v_rest, goMod, goFdiv
    by_cases h : 1 < rest
    · rw [if_pos h]
      refine ⟨by omega, ⟨by omega, ?_⟩, st_len, ?_⟩
      · have := Nat.log2_lt (n := many.natAbs) (k := 9000) (by omega)
        exact (this.mpr (Nat.lt_of_lt_of_le (show many.natAbs < 2 ^ 20 by omega) (Nat.pow_le_pow_right (by decide) (by decide))))
      · rw [mup_mup, p_rest]
        exact fin _ _ _ _ _ (Int.emod_nonneg _ (by omega)) (Int.emod_lt_of_pos _ (by omega)) a0 (Int.ediv_nonneg (by omega) (by omega)) t0 m0 m1
    · rw [if_neg h]
      have tail : ∀ c : Int, 0 ≤ c → af2_l_take K { nx := fun x M' => Q D.non M', rt := Q } ⟨[.v (.ref a), .v (.int many), .v (.lst (ns.map .int)), .n, .v (.int c)], X⟩ (mup M a (.om (.dic (stD ns at_ rest turn more)))) := fun c c0 => by
        wp_walk using af2_l_take, mup_same, v_turn, goAdd
        refine ⟨st_len, ?_⟩
        rw [mup_mup, p_turn]
        wp_walk using mup_same, v_more, v_turn
        refine ⟨.inr ⟨by decide, by decide⟩, st_len, ?_⟩
        rw [mup_mup, p_more]
        have y0 : 0 ≤ (more * 48271 + c + (turn + 1)) % 2147483647 := Int.emod_nonneg _ (by decide)
        have y1 : (more * 48271 + c + (turn + 1)) % 2147483647 < 2147483647 := Int.emod_lt_of_pos _ (by decide)
        generalize (more * 48271 + c + (turn + 1)) % 2147483647 = y at y0 y1 ⊢
        wp_walk using mup_same, v_more
        exact ⟨.inl ⟨by omega, by omega⟩, .inl ⟨by decide, by decide⟩, by omega, fin _ _ _ _ _ (Int.emod_nonneg _ (by omega)) (Int.emod_lt_of_pos _ (by omega)) a0 r0 (by omega) y0 (by omega)⟩
      wp_walk using af3_l_take, List.length_map
      by_cases h0 : (0 : Int) < (ns.length : Nat)
      · rw [if_pos h0]
        have t1 := Int.emod_nonneg turn (show ((ns.length : Nat) : Int) ≠ 0 by omega)
        have t2 := Int.emod_lt_of_pos turn h0
        obtain ⟨z, hz, hz2, _⟩ := atI_in (xs := ns.map D.int) t1 (by rw [List.length_map]; exact t2)
        obtain ⟨c, hc, rfl⟩ := List.mem_map.mp hz2
        wp_walk using mup_same, v_turn, goMod, List.length_map, hz
        exact ⟨h0, tail c (hn c hc)⟩
      · rw [if_neg h0]
        exact tail 0 (by decide)
  wp_walk using mup_same, v_rest, v_at, List.length_map
  by_cases h1 : rest < 2
  · rw [if_pos h1]
    by_cases h2 : at_ < (ns.length : Nat)
    · rw [if_pos h2]
      obtain ⟨z, hz, hz2, _⟩ := atI_in (xs := ns.map D.int) a0 (by rw [List.length_map]; exact h2)
      obtain ⟨c, hc, rfl⟩ := List.mem_map.mp hz2
      have tail : ∀ (DD : DEnds) (rest : Int), DD.nx ⟨[.v (.ref a), .v (.int many), .v (.lst (ns.map .int)), .n, .n], X⟩ (mup M a (.om (.dic (stD ns (at_ + 1) rest turn more)))) →
          af1_l_take K DD ⟨[.v (.ref a), .v (.int many), .v (.lst (ns.map .int)), .n, .n], X⟩ (mup M a (.om (.dic (stD ns at_ rest turn more)))) := fun DD rest h => by
        wp_walk using af1_l_take, mup_same, v_at, goAdd
        refine ⟨st_len, ?_⟩
        rw [mup_mup, p_at]
        exact h
      have nxt : ∀ rest : Int, 0 ≤ rest → ∃ m', m' < ((ns.length : Int) - at_).toNat ∧ ∃ at_' rest' turn' more' : Int, mup M a (.om (.dic (stD ns (at_ + 1) rest turn more))) = mup M a (.om (.dic (stD ns at_' rest' turn' more'))) ∧
          (⟨[.v (.ref a), .v (.int many), .v (.lst (ns.map .int)), .n, .n], X⟩ : DL.Fr) = ⟨[.v (.ref a), .v (.int many), .v (.lst (ns.map .int)), .n, .n], X⟩ ∧ 0 ≤ at_' ∧ 0 ≤ rest' ∧ 0 ≤ turn' ∧ 0 ≤ more' ∧ more' < 2147483648 ∧ m' = ((ns.length : Int) - at_').toNat :=
        fun rest r0 => ⟨((ns.length : Int) - (at_ + 1)).toNat, by omega, at_ + 1, rest, turn, more, rfl, rfl, by omega, r0, t0, m0, m1, rfl⟩
      wp_walk using lp1_l_take, mup_same, v_at, hz, goPow
      refine ⟨⟨by decide, by decide, by decide⟩, ?_⟩
      split
      · refine ⟨st_len, ?_⟩
        rw [mup_mup, p_rest]
        exact tail _ c (nxt c (hn c hc))
      · exact tail _ rest (nxt rest r0)
    · rw [if_neg h2]
      exact rest_
  · rw [if_neg h1]
    exact rest_
theorem take_of {M : Mem} {a : Addr} {m : Int} {Q : D → Mem → Prop} {X : Addr → Mem → Prop} (ms : M a = some .st) (h1 : 1 ≤ m) (h2 : m ≤ 1000001) (h : ∀ n : Int, 0 ≤ n → n < m → Q (.int n) M) : fs_l_take K [.ref a, .int m] M Q X :=
  ⟨a, _, rfl, ms, ⟨m, rfl, h1, h2⟩, fun d ⟨m', n, e, e2, h3, h4⟩ => by cases e; subst e2; exact h n h3 h4⟩
def seqOf : D → Option (List D)
  | .lst xs => some xs
  | .tup xs => some xs
  | _ => none
def fs_l_pick (K : PySem.W.Frag) : FS := DrawF (fun r => ∃ d xs, r = [d] ∧ seqOf d = some xs ∧ 0 < xs.length ∧ xs.length ≤ 1000000) fun r z => ∃ d xs, r = [d] ∧ seqOf d = some xs ∧ z ∈ xs
theorem mo_l_pick {K : PySem.W.Frag} : MonoF (fs_l_pick K) := drawF_mono
/-- _law_pick -/
def g_l_pick (K : PySem.W.Frag) : GS := gRet (g2 goIx (gV 1) (gCallM (fs_l_take K) (gCons (gV 0) (gCons (gCa gcLen (gCons (gV 1) gNil)) gNil))))
theorem h_l_pick {K : PySem.W.Frag} : ∀ ds M Q X, (fs_l_pick K) ds M Q X → ds.length = ([.v, .v] : List AK).length → g_l_pick K { nx := fun _ M' => Q .non M', rt := Q } (entry 2 [.v, .v] ds X) M := by
  rintro ds M Q X ⟨a, r, rfl, ms, ⟨d, xs, rfl, hs, h0, h1⟩, q⟩ -
  cases d <;> simp only [seqOf, reduceCtorEq, Option.some.injEq] at hs <;> subst hs
  all_goals
    wp_walk using g_l_pick
    refine take_of ms (by omega) (by omega) fun n n0 n1 => ?_
    obtain ⟨z, e, hz, _⟩ := atI_in n0 n1
    wp_walk using e
    exact q z ⟨_, _, rfl, rfl, hz⟩
theorem pick_of {M : Mem} {a : Addr} {d : D} {xs : List D} {Q : D → Mem → Prop} {X : Addr → Mem → Prop} (ms : M a = some .st) (hs : seqOf d = some xs) (h1 : 0 < xs.length) (h2 : xs.length ≤ 1000000) (h : ∀ z ∈ xs, Q z M) : fs_l_pick K [.ref a, d] M Q X :=
  ⟨a, _, rfl, ms, ⟨d, xs, rfl, hs, h1, h2⟩, fun z ⟨d', ys, e, e2, hd⟩ => by
    cases e
    rw [hs] at e2
    cases e2
    exact h z hd⟩
def fs_l_size (K : PySem.W.Frag) : FS := DrawF (fun r => ∃ b : Int, r = [.int b] ∧ 0 ≤ b ∧ b ≤ 1000) fun r d => ∃ b n : Int, r = [.int b] ∧ d = .int n ∧ 0 ≤ n ∧ n ≤ b
theorem mo_l_size {K : PySem.W.Frag} : MonoF (fs_l_size K) := drawF_mono
/-- _law_size -/
def g_l_size (K : PySem.W.Frag) : GS := gSeq (gSet 2 (gLst (gCons (gCallM (fs_l_take K) (gCons (gV 0) (gCons (gC (.int 8)) gNil))) (gCons (gCallM (fs_l_take K) (gCons (gV 0) (gCons (gC (.int 20)) gNil))) (gCons (gCallM (fs_l_take K) (gCons (gV 0) (gCons (g2 goAdd (gV 1) (gC (.int 1))) gNil))) (gCons (gC (.int 0)) (gCons (gV 1) (gCons (gC (.int 9)) gNil)))))))) (gRet (g2 goMod (gCallM (fs_l_pick K) (gCons (gV 0) (gCons (gV 2) gNil))) (g2 goAdd (gV 1) (gC (.int 1)))))
theorem h_l_size : ∀ ds M Q X, (fs_l_size K) ds M Q X → ds.length = ([.v, .v] : List AK).length → g_l_size K { nx := fun _ M' => Q .non M', rt := Q } (entry 3 [.v, .v] ds X) M := by
  rintro ds M Q X ⟨a, r, rfl, ms, ⟨b, rfl, b0, b1⟩, q⟩ -
  wp_walk using g_l_size
  refine take_of ms (by omega) (by omega) fun n1 a1 c1 => take_of ms (by omega) (by omega) fun n2 a2 c2 => take_of ms (by omega) (by omega) fun n3 a3 c3 => pick_of ms rfl (by simp) (by simp) fun d hd => ?_
  have fin : ∀ n : Int, 0 ≤ n → goMod (.int n) (.int (b + 1)) M Q := fun n hn => ⟨by omega, q _ ⟨b, _, rfl, rfl, Int.emod_nonneg _ (by omega), by have := Int.emod_lt_of_pos n (show 0 < b + 1 by omega); omega⟩⟩
  simp only [List.mem_cons, List.not_mem_nil, or_false] at hd
  rcases hd with rfl | rfl | rfl | rfl | rfl | rfl <;> exact fin _ (by omega)
theorem size_dr {M : Mem} {a : Addr} {b : Int} {Q : D → Mem → Prop} {X : Addr → Mem → Prop} (ms : M a = some .st) (h0 : 0 ≤ b) (h1 : b ≤ 1000) (h : ∀ n : Int, 0 ≤ n → n ≤ b → Q (.int n) M) : fs_l_size K [.ref a, .int b] M Q X :=
  ⟨a, _, rfl, ms, ⟨b, rfl, h0, h1⟩, fun d ⟨b', n, e, e2, h3, h4⟩ => by cases e; subst e2; exact h n h3 h4⟩
end
section
variable {K : PySem.W.Frag}
def isThing : D → Bool
  | .int x => decide (0 ≤ x) && decide (x ≤ 999999)
  | _ => false
def fs_p_is_thing (K : PySem.W.Frag) : FS := fun ds M Q _ => ∃ d, ds = [d] ∧ d.da = true ∧ Q (.bl (isThing d)) M
theorem mo_p_is_thing {K : PySem.W.Frag} : MonoF (fs_p_is_thing K) := fun _ _ _ _ _ _ h _ ⟨d, e, c, q⟩ => ⟨d, e, c, h _ _ q⟩
/-- is_thing -/
def g_p_is_thing (K : PySem.W.Frag) : GS := gRet (gAndV (gCa gcIsi (gCons (gV 0) (gCons (gC (.ty "int")) gNil))) (gAndV (gNotV (gCa gcIsi (gCons (gV 0) (gCons (gC (.ty "bool")) gNil)))) (gCh goLe goLe (gC (.int 0)) (gV 0) (gC (.int 999999)))))
theorem h_p_is_thing {K : PySem.W.Frag} : ∀ ds M Q X, (fs_p_is_thing K) ds M Q X → ds.length = ([.v] : List AK).length → g_p_is_thing K { nx := fun _ M' => Q .non M', rt := Q } (entry 1 [.v] ds X) M := by
  rintro ds M Q X ⟨d, rfl, ht, q⟩ -
  wp_walk using g_p_is_thing
  cases d
  case int x =>
    wp_walk
    by_cases h : 0 ≤ x
    · simpa [isThing, h] using q
    · simpa [isThing, h] using q
  all_goals first | (simp [D.da] at ht; done) | (wp_walk; exact q)
def isSort (d : D) : Bool := match d with
  | .str z => decide (z ∈ (["set", "row", "map"] : List PySem.Str))
  | _ => false
def fs_p_need_sort (K : PySem.W.Frag) : FS := fun ds M Q X => ∃ d, ds = [d] ∧ d.da = true ∧ (isSort d = true → Q .non M) ∧ (isSort d = false → X (He.ga K "NoSort") M)
theorem mo_p_need_sort {K : PySem.W.Frag} : MonoF (fs_p_need_sort K) := fun _ _ _ _ _ _ h hx ⟨d, e, c, q, q2⟩ => ⟨d, e, c, fun z => h _ _ (q z), fun z => hx _ _ (q2 z)⟩
/-- need_sort -/
def g_p_need_sort (K : PySem.W.Frag) : GS := gIfS (gOr (gNot (gTru (gCa gcIsi (gCons (gV 0) (gCons (gC (.ty "str")) gNil))))) (gB (g2 (goTab (He.ga K "WORDS") ["set", "row", "map"] true) (gV 0) (gC (.ref (He.ga K "WORDS")))))) (gRaise (He.ga K "NoSort")) (gNext)
theorem h_p_need_sort {K : PySem.W.Frag} : ∀ ds M Q X, (fs_p_need_sort K) ds M Q X → ds.length = ([.v] : List AK).length → g_p_need_sort K { nx := fun _ M' => Q .non M', rt := Q } (entry 1 [.v] ds X) M := by
  rintro ds M Q X ⟨d, rfl, ht, q, q2⟩ -
  wp_walk using g_p_need_sort
  cases d
  case str z =>
    wp_walk
    by_cases h : z ∈ (["set", "row", "map"] : List PySem.Str)
    · rw [if_pos h]
      exact q (decide_eq_true h)
    · rw [if_neg h]
      exact q2 (decide_eq_false h)
  all_goals first | (simp [D.da] at ht; done) | (wp_walk; exact q2 rfl)
/-- a pair of things -/
def isPair : D → Bool
  | .tup [a, b] => isThing a && isThing b
  | _ => false
def fs_p_is_pair (K : PySem.W.Frag) : FS := fun ds M Q _ => ∃ d, ds = [d] ∧ d.da = true ∧ Q (.bl (isPair d)) M
theorem mo_p_is_pair {K : PySem.W.Frag} : MonoF (fs_p_is_pair K) := fun _ _ _ _ _ _ h _ ⟨d, e, c, q⟩ => ⟨d, e, c, h _ _ q⟩
theorem thing_of {M : Mem} {d : D} {Q : D → Mem → Prop} {X : Addr → Mem → Prop} (h : d.da = true) (q : Q (.bl (isThing d)) M) : fs_p_is_thing K [d] M Q X := ⟨d, rfl, h, q⟩
/-- is_pair -/
def g_p_is_pair (K : PySem.W.Frag) : GS := gRet (gAndV (gCa gcIsi (gCons (gV 0) (gCons (gC (.ty "tuple")) gNil))) (gAndV (g2 goEqA (gCa gcLen (gCons (gV 0) gNil)) (gC (.int 2))) (gAndV (gCallP (fs_p_is_thing K) (gCons (g2 goIx (gV 0) (gC (.int 0))) gNil)) (gCallP (fs_p_is_thing K) (gCons (g2 goIx (gV 0) (gC (.int 1))) gNil)))))
theorem h_p_is_pair {K : PySem.W.Frag} : ∀ ds M Q X, (fs_p_is_pair K) ds M Q X → ds.length = ([.v] : List AK).length → g_p_is_pair K { nx := fun _ M' => Q .non M', rt := Q } (entry 1 [.v] ds X) M := by
  rintro ds M Q X ⟨d, rfl, ht, q⟩ -
  wp_walk using g_p_is_pair
  cases d
  case tup xs =>
    rcases xs with _ | ⟨a, _ | ⟨b, _ | ⟨c, xs⟩⟩⟩
    · wp_walk
      exact q
    · wp_walk
      exact q
    · have h := D.da_tup ▸ ht
      have ha : a.da = true := D.daL_mem h a (by simp)
      have hb : b.da = true := D.daL_mem h b (by simp)
      have e0 : atI [a, b] 0 = some a := by rfl
      have e1 : atI [a, b] 1 = some b := by rfl
      wp_walk using e0, e1
      rw [if_pos (by rfl)]
      refine thing_of (K := K) ha ?_
      cases z : isThing a with
      | false =>
        wp_walk
        simpa [isPair, z] using q
      | true =>
        wp_walk using e1
        refine thing_of (K := K) hb ?_
        wp_walk
        simpa [isPair, z] using q
    · wp_walk
      rw [if_neg (by omega)]
      exact q
  all_goals first | (simp [D.da] at ht; done) | (wp_walk; exact q)
def fs_p_are_unlike (K : PySem.W.Frag) : FS := fun ds M Q _ => ∃ (d : D) (ns : List Int), ds = [d] ∧ seqOf d = some (ns.map .int) ∧ ns.length ≤ 4000 ∧ Q (.bl (decide ns.Nodup)) M
theorem mo_p_are_unlike {K : PySem.W.Frag} : MonoF (fs_p_are_unlike K) := fun _ _ _ _ _ _ h _ ⟨d, ns, e, c, c2, q⟩ => ⟨d, ns, e, c, c2, h _ _ q⟩
/-- are_unlike -/
def g_p_are_unlike (K : PySem.W.Frag) : GS := gRet (g2 goEqA (gLenSet (gV 0)) (gCa gcLen (gCons (gV 0) gNil)))
theorem h_p_are_unlike {K : PySem.W.Frag} : ∀ ds M Q X, (fs_p_are_unlike K) ds M Q X → ds.length = ([.v] : List AK).length → g_p_are_unlike K { nx := fun _ M' => Q .non M', rt := Q } (entry 1 [.v] ds X) M := by
  rintro ds M Q X ⟨d, ns, rfl, hs, hl, q⟩ -
  cases d <;> simp only [seqOf, reduceCtorEq, Option.some.injEq] at hs <;> subst hs
  all_goals
    wp_walk using g_p_are_unlike, lenSetK_tup, lenSetK_lst
    refine ⟨hl, fun L hL => ?_⟩
    have e : decide ((L.length : Int) = (ns.length : Nat)) = decide ns.Nodup := by
      rw [Bool.eq_iff_iff, decide_eq_true_eq, decide_eq_true_eq, ← hL.iff]
      omega
    rw [← e] at q
    exact q
/-- a key and a value -/
def pI (p : Int × Int) : D := .tup [.int p.1, .int p.2]
def pairsOf : List D → Option (List (Int × Int))
  | [] => some []
  | .tup [.int a, .int b] :: r => (pairsOf r).map ((a, b) :: ·)
  | _ => none
theorem pairsOf_map : ∀ ps : List (Int × Int), pairsOf (ps.map pI) = some ps
  | [] => rfl
  | p :: ps => by
    show (pairsOf (ps.map pI)).map _ = _
    rw [pairsOf_map ps]
    rfl
theorem isPair_inv {d : D} (h : isPair d = true) : ∃ p : Int × Int, d = pI p ∧ (0 ≤ p.1 ∧ p.1 ≤ 999999) ∧ 0 ≤ p.2 ∧ p.2 ≤ 999999 := by
  unfold isPair at h
  split at h
  · rename_i a b
    rw [Bool.and_eq_true] at h
    have th : ∀ {d : D}, isThing d = true → ∃ x, d = .int x ∧ 0 ≤ x ∧ x ≤ 999999 := fun {d} h => by
      cases d <;> first | (cases h; done) | skip
      rename_i x
      have h2 : (decide (0 ≤ x) && decide (x ≤ 999999)) = true := h
      rw [Bool.and_eq_true, decide_eq_true_eq, decide_eq_true_eq] at h2
      exact ⟨x, rfl, h2⟩
    obtain ⟨x, rfl, hx⟩ := th h.1
    obtain ⟨y, rfl, hy⟩ := th h.2
    exact ⟨(x, y), rfl, hx, hy⟩
  · cases h
theorem pairs_of : ∀ {xs : List D}, xs.all isPair = true → ∃ ps : List (Int × Int), xs = ps.map pI ∧ ∀ p ∈ ps, (0 ≤ p.1 ∧ p.1 ≤ 999999) ∧ 0 ≤ p.2 ∧ p.2 ≤ 999999
  | [], _ => ⟨[], rfl, by simp⟩
  | x :: xs, h => by
    rw [List.all_cons, Bool.and_eq_true] at h
    obtain ⟨p, rfl, hp⟩ := isPair_inv h.1
    obtain ⟨ps, rfl, hps⟩ := pairs_of h.2
    refine ⟨p :: ps, rfl, fun q hq => ?_⟩
    rcases List.mem_cons.mp hq with rfl | hq
    · exact hp
    · exact hps q hq
/-- what lies on a set -/
def isSetB : D → Bool
  | .tup xs => decide (xs.length ≤ 40) && (xs.all isThing && match intsOf xs with
    | some ns => decide ns.Nodup
    | none => false)
  | _ => false
def isRowB : D → Bool
  | .tup xs => decide (xs.length ≤ 40) && xs.all isThing
  | _ => false
def isMapB : D → Bool
  | .tup xs => decide (xs.length ≤ 40) && (xs.all isPair && match pairsOf xs with
    | some ps => decide (ps.map (·.1)).Nodup
    | none => false)
  | _ => false
/-- the sorts of shelves -/
inductive So where
  | set | row | map
def So.s : So → PySem.Str
  | .set => "set"
  | .row => "row"
  | .map => "map"
/-- what lies on a shelf of a sort -/
def lieB : So → D → Bool
  | .set => isSetB
  | .row => isRowB
  | .map => isMapB
theorem isSort_iff {d : D} (h : isSort d = true) : ∃ so : So, d = .str so.s := by
  cases d <;> first | (cases h; done) | skip
  rename_i z
  have h2 := of_decide_eq_true h
  simp only [List.mem_cons, List.not_mem_nil, or_false] at h2
  rcases h2 with rfl | rfl | rfl
  · exact ⟨.set, rfl⟩
  · exact ⟨.row, rfl⟩
  · exact ⟨.map, rfl⟩
theorem things_ints {xs : List D} (h : xs.all isThing = true) : ∃ ns : List Int, xs = ns.map .int ∧ ∀ n ∈ ns, 0 ≤ n ∧ n ≤ 999999 := by
  obtain ⟨ns, e, _, h2⟩ := ints_of (P := fun n => 0 ≤ n ∧ n ≤ 999999) (xs := xs) fun d hd => by
    have := List.all_eq_true.mp h d hd
    cases d <;> first | (cases this; done) | skip
    rename_i x
    have h2 : (decide (0 ≤ x) && decide (x ≤ 999999)) = true := this
    rw [Bool.and_eq_true, decide_eq_true_eq, decide_eq_true_eq] at h2
    exact ⟨x, rfl, h2⟩
  exact ⟨ns, e, h2⟩
def fs_p_is_things (K : PySem.W.Frag) : FS := fun ds M Q X => ∃ s d, ds = [s, d] ∧ s.da = true ∧ d.da = true ∧ (isSort s = false → X (He.ga K "NoSort") M) ∧ ∀ so : So, s = .str so.s → Q (.bl (lieB so d)) M
theorem mo_p_is_things {K : PySem.W.Frag} : MonoF (fs_p_is_things K) := fun _ _ _ _ _ _ h hx ⟨s, d, e, c, c2, q1, q2⟩ => ⟨s, d, e, c, c2, fun z => hx _ _ (q1 z), fun so z => h _ _ (q2 so z)⟩
/-- is_things -/
def af1_p_is_things (K : PySem.W.Frag) : GS := gRet (gOrV (g2 goEqA (gV 0) (gC (.str "row"))) (gCallP (fs_p_are_unlike K) (gCons (gV 1) gNil)))
def af2_p_is_things (K : PySem.W.Frag) : GS := gSeq (gIfS (gNot (gTru (gCa gcAll (gCons (gFd (gLc (itsD (fun ds => ds) (gV 1)) (gtN 2) (gYes) (gCallP (fs_p_is_thing K) (gCons (gV 2) gNil)) [2])) gNil)))) (gRet (gC (.bl false))) (gNext)) (af1_p_is_things K)
def af3_p_is_things (K : PySem.W.Frag) : GS := gSeq (gIfS (gB (g2 goEqA (gV 0) (gC (.str "map")))) (gRet (gAndV (gCa gcAll (gCons (gFd (gLc (itsD (fun ds => ds) (gV 1)) (gtN 2) (gYes) (gCallP (fs_p_is_pair K) (gCons (gV 2) gNil)) [2])) gNil)) (gCallP (fs_p_are_unlike K) (gCons (gFd (gLc (itsD (fun ds => ds) (gV 1)) (gtN 2) (gYes) (g2 goIx (gV 2) (gC (.int 0))) [2])) gNil)))) (gNext)) (af2_p_is_things K)
def g_p_is_things (K : PySem.W.Frag) : GS := gSeq (gDrop (gCallP (fs_p_need_sort K) (gCons (gV 0) gNil))) (gSeq (gIfS (gOr (gNot (gTru (gCa gcIsi (gCons (gV 1) (gCons (gC (.ty "tuple")) gNil))))) (gB (g2 goGt (gCa gcLen (gCons (gV 1) gNil)) (gC (.int 40))))) (gRet (gC (.bl false))) (gNext)) (af3_p_is_things K))
theorem h_p_is_things {K : PySem.W.Frag} : ∀ ds M Q X, (fs_p_is_things K) ds M Q X → ds.length = ([.v, .v] : List AK).length → g_p_is_things K { nx := fun _ M' => Q .non M', rt := Q } (entry 3 [.v, .v] ds X) M := by
  rintro ds M Q X ⟨s, d, rfl, hs, hd, q1, q2⟩ -
  wp_walk using g_p_is_things
  refine ⟨s, rfl, hs, fun hso => ?_, q1⟩
  obtain ⟨so, rfl⟩ := isSort_iff hso
  have q := q2 so rfl
  have fin : (∀ xs, d ≠ .tup xs) → Q (.bl false) M := fun h => by
    have e2 : lieB so d = false := by cases so <;> cases d <;> first | rfl | exact absurd rfl (h _)
    rwa [e2] at q
  wp_walk
  cases d
  case tup xs =>
    wp_walk
    by_cases hl : (40 : Int) < (xs.length : Nat)
    · rw [if_pos hl]
      have hl' : decide (xs.length ≤ 40) = false := decide_eq_false (by omega)
      have e2 : lieB so (.tup xs) = false := by
        cases so
        · simp [lieB, isSetB, hl']
        · simp [lieB, isRowB, hl']
        · simp [lieB, isMapB, hl']
      rwa [e2] at q
    · rw [if_neg hl]
      have hl' : decide (xs.length ≤ 40) = true := decide_eq_true (by omega)
      have hl2 : xs.length ≤ 40 := by omega
      have hda : ∀ d ∈ xs, d.da = true := D.daL_mem (D.da_tup ▸ hd)
      have eb : ∀ f : D → Bool, blsOf ([] ++ xs.map fun d => D.bl (f d)) = some (xs.map f) := fun f => by
        rw [List.nil_append, show (xs.map fun d => D.bl (f d)) = (xs.map f).map D.bl by rw [List.map_map]; rfl]
        exact blsOf_map _
      have ea : ∀ f : D → Bool, (xs.map f).all _root_.id = xs.all f := fun f => by rw [List.all_map]; rfl
      cases so
      case set =>
        wp_walk using af3_p_is_things, af2_p_is_things, So.s
        rw [if_neg (by decide)]
        refine lc_map (fun d => .bl (isThing d)) (fun d hd Q' q' => ?_) (size_of (by rw [List.length_nil]; omega)) ?_
        · wp_walk
          exact thing_of (K := K) (hda d hd) q'
        · refine ⟨_, eb isThing, ?_⟩
          dsimp only
          rw [ea]
          cases ht : xs.all isThing with
          | false =>
            wp_walk
            simpa [lieB, isSetB, hl', ht] using q
          | true =>
            obtain ⟨ns, rfl, hn⟩ := things_ints ht
            wp_walk using af1_p_is_things
            rw [if_neg (by decide)]
            wp_walk
            refine ⟨.tup (ns.map .int), ns, rfl, rfl, by rw [List.length_map] at hl2; omega, ?_⟩
            have hl2 : ns.length ≤ 40 := by simpa using hl'
            simpa [lieB, isSetB, hl2, ht, intsOf_map] using q
      case row =>
        wp_walk using af3_p_is_things, af2_p_is_things, So.s
        rw [if_neg (by decide)]
        refine lc_map (fun d => .bl (isThing d)) (fun d hd Q' q' => ?_) (size_of (by rw [List.length_nil]; omega)) ?_
        · wp_walk
          exact thing_of (K := K) (hda d hd) q'
        · refine ⟨_, eb isThing, ?_⟩
          dsimp only
          rw [ea]
          cases ht : xs.all isThing with
          | false =>
            wp_walk
            simpa [lieB, isRowB, hl', ht] using q
          | true =>
            wp_walk using af1_p_is_things
            simpa [lieB, isRowB, hl', ht] using q
      case map =>
        wp_walk using af3_p_is_things, af2_p_is_things, So.s
        refine lc_map (fun d => .bl (isPair d)) (fun d hd Q' q' => ?_) (size_of (by rw [List.length_nil]; omega)) ?_
        · wp_walk
          exact ⟨d, rfl, hda d hd, q'⟩
        · refine ⟨_, eb isPair, ?_⟩
          dsimp only
          rw [ea]
          cases ht : xs.all isPair with
          | false =>
            wp_walk
            simpa [lieB, isMapB, hl', ht] using q
          | true =>
            obtain ⟨ps, rfl, hn⟩ := pairs_of ht
            have hl3 : ps.length ≤ 40 := by simpa using hl'
            wp_walk
            refine lc_mp (xs := ps) (enc := pI) (f := fun p => .int p.1) (fun p hp Q' q' => ?_) (size_of (by rw [List.length_nil]; omega)) ?_
            · wp_walk using pI
              exact q'
            · rw [List.nil_append, show (ps.map fun p => D.int p.1) = (ps.map (·.1)).map D.int by rw [List.map_map]; rfl]
              refine ⟨.lst ((ps.map (·.1)).map .int), ps.map (·.1), rfl, rfl, by rw [List.length_map]; omega, ?_⟩
              simpa [lieB, isMapB, hl3, ht, pairsOf_map] using q
  all_goals first | (simp [D.da] at hd; done) | (wp_walk; exact fin fun xs z => by cases z)
def fs_p_need_set (K : PySem.W.Frag) : FS := fun ds M Q X => ∃ d, ds = [d] ∧ d.da = true ∧ (isSetB d = true → Q .non M) ∧ (isSetB d = false → X (He.ga K "NoThings") M)
theorem mo_p_need_set {K : PySem.W.Frag} : MonoF (fs_p_need_set K) := fun _ _ _ _ _ _ h hx ⟨d, e, c, q, q2⟩ => ⟨d, e, c, fun z => h _ _ (q z), fun z => hx _ _ (q2 z)⟩
/-- need_set -/
def g_p_need_set (K : PySem.W.Frag) : GS := gIfS (gNot (gTru (gCallP (fs_p_is_things K) (gCons (gC (.str "set")) (gCons (gV 0) gNil))))) (gRaise (He.ga K "NoThings")) (gNext)
theorem h_p_need_set {K : PySem.W.Frag} : ∀ ds M Q X, (fs_p_need_set K) ds M Q X → ds.length = ([.v] : List AK).length → g_p_need_set K { nx := fun _ M' => Q .non M', rt := Q } (entry 1 [.v] ds X) M := by
  rintro ds M Q X ⟨d, rfl, hd, q, q2⟩ -
  wp_walk using g_p_need_set
  refine ⟨.str "set", d, rfl, rfl, hd, fun z => (by cases z), fun so e => ?_⟩
  have e2 : so = .set := by cases so <;> first | rfl | exact absurd (D.str.inj e) (by decide)
  subst e2
  show (if isSetB d = true then _ else _)
  cases h : isSetB d with
  | true =>
    wp_walk
    exact q h
  | false =>
    wp_walk
    exact q2 h
def fs_p_need_member (K : PySem.W.Frag) : FS := fun ds M Q X => ∃ d, ds = [d] ∧ d.da = true ∧ (isThing d = true → Q .non M) ∧ (isThing d = false → X (He.ga K "NoDeed") M)
theorem mo_p_need_member {K : PySem.W.Frag} : MonoF (fs_p_need_member K) := fun _ _ _ _ _ _ h hx ⟨d, e, c, q, q2⟩ => ⟨d, e, c, fun z => h _ _ (q z), fun z => hx _ _ (q2 z)⟩
/-- need_member -/
def g_p_need_member (K : PySem.W.Frag) : GS := gIfS (gNot (gTru (gCallP (fs_p_is_thing K) (gCons (gV 0) gNil)))) (gRaise (He.ga K "NoDeed")) (gNext)
theorem h_p_need_member {K : PySem.W.Frag} : ∀ ds M Q X, (fs_p_need_member K) ds M Q X → ds.length = ([.v] : List AK).length → g_p_need_member K { nx := fun _ M' => Q .non M', rt := Q } (entry 1 [.v] ds X) M := by
  rintro ds M Q X ⟨d, rfl, hd, q, q2⟩ -
  wp_walk using g_p_need_member
  refine thing_of (K := K) hd ?_
  cases h : isThing d with
  | true =>
    wp_walk
    exact q h
  | false =>
    wp_walk
    exact q2 h
def fs_p_need_place (K : PySem.W.Frag) : FS := fun ds M Q X => ∃ d xs, ds = [d] ∧ seqOf d = some xs ∧ (xs.length ≠ 40 → Q .non M) ∧ (xs.length = 40 → X (He.ga K "TooMany") M)
theorem mo_p_need_place {K : PySem.W.Frag} : MonoF (fs_p_need_place K) := fun _ _ _ _ _ _ h hx ⟨d, xs, e, c, q, q2⟩ => ⟨d, xs, e, c, fun z => h _ _ (q z), fun z => hx _ _ (q2 z)⟩
/-- need_place -/
def g_p_need_place (K : PySem.W.Frag) : GS := gIfS (gB (g2 goEqA (gCa gcLen (gCons (gVw 0) gNil)) (gC (.int 40)))) (gRaise (He.ga K "TooMany")) (gNext)
theorem h_p_need_place {K : PySem.W.Frag} : ∀ ds M Q X, (fs_p_need_place K) ds M Q X → ds.length = ([.b] : List AK).length → g_p_need_place K { nx := fun _ M' => Q .non M', rt := Q } (entry 1 [.b] ds X) M := by
  rintro ds M Q X ⟨d, xs, rfl, hs, q, q2⟩ -
  cases d <;> simp only [seqOf, reduceCtorEq, Option.some.injEq] at hs <;> subst hs
  all_goals
    wp_walk using g_p_need_place
    split
    · exact q2 (by omega)
    · exact q (by omega)
/-- the least of those from x on, or -1 -/
def leastFrom (ns : List Int) (x : Int) : Int := mnD (ns.filter fun n => decide (x ≤ n)) (-1)
theorem eqv_any (x : Int) (ns : List Int) : (ns.map D.int).any (fun z => z.eqv (.int x)) = decide (x ∈ ns) := by
  rw [Bool.eq_iff_iff, decide_eq_true_eq, List.any_eq_true]
  constructor
  · rintro ⟨d, hd, e⟩
    obtain ⟨n, hn, rfl⟩ := List.mem_map.mp hd
    rw [eqv_int] at e
    rw [← of_decide_eq_true e]
    exact hn
  · exact fun h => ⟨_, List.mem_map.mpr ⟨x, h, rfl⟩, by rw [eqv_int, decide_eq_true rfl]⟩
theorem goIn_lstI {neg : Bool} {x : Int} {ns : List Int} {M : Mem} {Q : D → Mem → Prop} : goIn neg (.int x) (.lst (ns.map .int)) M Q = Q (.bl (xor neg (decide (x ∈ ns)))) M := by
  show (((D.int x).ok = true ∧ D.ok (.lst (ns.map .int)) = true) ∧ Q (.bl (xor neg ((ns.map D.int).any fun z => z.eqv (.int x)))) M) = _
  rw [eqv_any, (ok1_lst (ok1_ints ns)).ok]
  exact propext ⟨fun h => h.2, fun h => ⟨⟨(ok1_int x).ok, rfl⟩, h⟩⟩
theorem ixD_intsI (x : Int) (ns : List Int) (h : x ∈ ns) : ∀ k, ixD (ns.map D.int) (.int x) k = some (k + ns.idxOf x) := by
  induction ns with
  | nil => cases h
  | cons y ns ih =>
    intro k
    rw [List.map_cons, ixD, eqv_int, List.idxOf_cons]
    by_cases e : y = x
    · subst e
      rw [decide_eq_true rfl, if_pos rfl, beq_self_eq_true]
      rfl
    · rw [decide_eq_false e, if_neg Bool.false_ne_true, beq_eq_false_iff_ne.mpr e]
      rw [ih ((List.mem_cons.mp h).resolve_left fun z => e z.symm)]
      show some (k + 1 + ns.idxOf x) = some (k + (ns.idxOf x + 1))
      congr 1
      omega
theorem ixM_ints {x : Int} {ns : List Int} {k : Nat → Prop} (h : x ∈ ns) : ixM (ns.map .int) (.int x) k = k (ns.idxOf x) := by
  unfold ixM
  rw [ixD_intsI x ns h 0, Nat.zero_add, (ok1_lst (ok1_ints ns)).ok]
  exact propext ⟨fun h => h.2, fun h => ⟨⟨rfl, (ok1_int x).ok⟩, h⟩⟩
theorem erase_mapP {α β : Type} (f : α → β) : ∀ (l : List α) (i : Nat), (l.map f).eraseIdx i = (l.eraseIdx i).map f
  | [], _ => rfl
  | _ :: _, 0 => rfl
  | x :: l, i + 1 => congrArg (f x :: ·) (erase_mapP f l i)
end
section
variable {K : PySem.W.Frag}
/-- things that lie on a set -/
structure SetN (ns : List Int) : Prop where
  len : ns.length ≤ 40
  rng : ∀ n ∈ ns, 0 ≤ n ∧ n ≤ 999999
  nd : ns.Nodup
theorem isSetB_iff {d : D} : isSetB d = true ↔ ∃ ns : List Int, d = .tup (ns.map .int) ∧ SetN ns := by
  constructor
  · intro h
    cases d <;> first | (cases h; done) | skip
    rename_i xs
    have h' : (decide (xs.length ≤ 40) && (xs.all isThing && match intsOf xs with
      | some ns => decide ns.Nodup
      | none => false)) = true := h
    rw [Bool.and_eq_true, Bool.and_eq_true, decide_eq_true_eq] at h'
    obtain ⟨ns, rfl, hn⟩ := things_ints h'.2.1
    have h3 := h'.2.2
    rw [intsOf_map] at h3
    exact ⟨ns, rfl, by simpa using h'.1, hn, of_decide_eq_true h3⟩
  · rintro ⟨ns, rfl, h1, h2, h3⟩
    show (decide ((ns.map D.int).length ≤ 40) && ((ns.map D.int).all isThing && match intsOf (ns.map D.int) with
      | some ns => decide ns.Nodup
      | none => false)) = true
    have e : (ns.map D.int).all isThing = true := List.all_eq_true.mpr fun d hd => by
      obtain ⟨n, hn, rfl⟩ := List.mem_map.mp hd
      have := h2 n hn
      show (decide (0 ≤ n) && decide (n ≤ 999999)) = true
      rw [decide_eq_true this.1, decide_eq_true this.2]; rfl
    rw [intsOf_map, e, List.length_map, decide_eq_true h1]
    simpa using h3
theorem isThing_int {d : D} (h : isThing d = true) : ∃ x, d = .int x ∧ 0 ≤ x ∧ x ≤ 999999 := by
  cases d <;> first | (cases h; done) | skip
  rename_i x
  have h2 : (decide (0 ≤ x) && decide (x ≤ 999999)) = true := h
  rw [Bool.and_eq_true, decide_eq_true_eq, decide_eq_true_eq] at h2
  exact ⟨x, rfl, h2⟩
def fs_l_thing (K : PySem.W.Frag) : FS := DrawF (fun r => ∃ k : Int, r = [.int k] ∧ 0 ≤ k) fun r d => ∃ n : Int, d = .int n ∧ 0 ≤ n ∧ n ≤ 999999
theorem mo_l_thing {K : PySem.W.Frag} : MonoF (fs_l_thing K) := drawF_mono
theorem at_6_60 {k : Int} (h0 : 0 ≤ k) (h : k < 2) : ∃ b, atI [D.int 6, .int 60] k = some (.int b) ∧ 1 ≤ b ∧ b ≤ 60 := by
  have : k = 0 ∨ k = 1 := by omega
  rcases this with rfl | rfl
  · exact ⟨6, by rfl, by omega, by omega⟩
  · exact ⟨60, by rfl, by omega, by omega⟩
/-- _law_thing -/
def af1_l_thing (K : PySem.W.Frag) : GS := gRet (gCallM (fs_l_pick K) (gCons (gV 0) (gCons (gLst (gCons (gC (.int 0)) (gCons (gC (.int 999999)) (gCons (gC (.int 1)) (gCons (gC (.int 999998)) (gCons (gC (.int 8)) (gCons (gC (.int 7)) gNil))))))) gNil)))
def af2_l_thing (K : PySem.W.Frag) : GS := gSeq (gIfS (gB (g2 goEqA (gV 1) (gC (.int 3)))) (gRet (gCallM (fs_l_take K) (gCons (gV 0) (gCons (gC (.int 1000000)) gNil)))) (gNext)) (af1_l_thing K)
def af3_l_thing (K : PySem.W.Frag) : GS := gSeq (gIfS (gB (g2 goEqA (gV 1) (gC (.int 2)))) (gRet (g2 goAdd (g2 goMulI (gC (.int 8)) (gCallM (fs_l_take K) (gCons (gV 0) (gCons (gC (.int 9)) gNil)))) (gC (.int 3)))) (gNext)) (af2_l_thing K)
def g_l_thing (K : PySem.W.Frag) : GS := gSeq (gIfS (gB (g2 goLtA (gV 1) (gC (.int 2)))) (gRet (gCallM (fs_l_take K) (gCons (gV 0) (gCons (g2 goIx (gLst (gCons (gC (.int 6)) (gCons (gC (.int 60)) gNil))) (gV 1)) gNil)))) (gNext)) (af3_l_thing K)
theorem h_l_thing {K : PySem.W.Frag} : ∀ ds M Q X, (fs_l_thing K) ds M Q X → ds.length = ([.v, .v] : List AK).length → g_l_thing K { nx := fun _ M' => Q .non M', rt := Q } (entry 2 [.v, .v] ds X) M := by
  rintro ds M Q X ⟨a, r, rfl, ms, ⟨k, rfl, k0⟩, q⟩ -
  have fin : ∀ n : Int, 0 ≤ n → n ≤ 999999 → Q (.int n) M := fun n h1 h2 => q _ ⟨n, rfl, h1, h2⟩
  wp_walk using g_l_thing
  by_cases h1 : k < 2
  · rw [if_pos h1]
    obtain ⟨b, eb, b0, b1⟩ := at_6_60 k0 h1
    wp_walk using eb
    exact take_of ms b0 (by omega) fun n n0 n1 => fin n n0 (by omega)
  · rw [if_neg h1]
    wp_walk using af3_l_thing
    split
    · wp_walk
      refine take_of (K := K) ms (by omega) (by omega) fun n n0 n1 => ?_
      wp_walk
      exact ⟨.inl ⟨by omega, by omega⟩, fin _ (by omega) (by omega)⟩
    · wp_walk using af2_l_thing
      split
      · wp_walk
        exact take_of (K := K) ms (by omega) (by omega) fun n n0 n1 => fin n n0 (by omega)
      · wp_walk using af1_l_thing
        refine pick_of (K := K) ms rfl (by simp) (by simp) fun d hd => ?_
        simp only [List.mem_cons, List.not_mem_nil, or_false] at hd
        rcases hd with rfl | rfl | rfl | rfl | rfl | rfl <;> exact fin _ (by omega) (by omega)
theorem thing_dr {M : Mem} {a : Addr} {k : Int} {Q : D → Mem → Prop} {X : Addr → Mem → Prop} (ms : M a = some .st) (h0 : 0 ≤ k) (h : ∀ n : Int, 0 ≤ n → n ≤ 999999 → Q (.int n) M) : fs_l_thing K [.ref a, .int k] M Q X :=
  ⟨a, _, rfl, ms, ⟨k, rfl, h0⟩, fun d ⟨n, e, h1, h2⟩ => by subst e; exact h n h1 h2⟩
end
section
variable {K : PySem.W.Frag}
def below (ns : List Int) (x : Int) : List Int := ns.filter fun n => decide (n < x)
inductive W5 where
  | put | take | has | next | rank
def W5.s : W5 → PySem.Str
  | .put => "put"
  | .take => "take"
  | .has => "has"
  | .next => "next"
  | .rank => "rank"
def telS : W5 → List Int → Int → Int
  | .put, ns, x => if x ∈ ns then 0 else 1
  | .take, ns, x => if x ∈ ns then 1 else 0
  | .has, ns, x => if x ∈ ns then 1 else 0
  | .next, ns, x => leastFrom ns x
  | .rank, ns, x => ((below ns x).length : Nat)
def aftS : W5 → List Int → Int → List Int
  | .put, ns, x => if x ∈ ns then ns else ns ++ [x]
  | .take, ns, x => ns.filter fun n => !decide (n = x)
  | _, ns, _ => ns
theorem erase_filter : ∀ (ns : List Int) (x : Int), ns.Nodup → x ∈ ns → ns.eraseIdx (ns.idxOf x) = ns.filter fun n => !decide (n = x)
  | [], _, _, h => by cases h
  | y :: ns, x, hn, h => by
    obtain ⟨h1, h2⟩ := List.nodup_cons.mp hn
    rw [List.idxOf_cons, List.filter_cons]
    by_cases e : y = x
    · subst e
      rw [beq_self_eq_true, decide_eq_true rfl]
      show ns = ns.filter _
      exact (List.filter_eq_self.mpr fun z hz => by
        have : z ≠ y := fun e => h1 (e ▸ hz)
        rw [decide_eq_false this]; rfl).symm
    · rw [beq_eq_false_iff_ne.mpr e, decide_eq_false e]
      show y :: ns.eraseIdx (ns.idxOf x) = y :: ns.filter _
      rw [erase_filter ns x h2 ((List.mem_cons.mp h).resolve_left fun z => e z.symm)]
theorem filter_absent {ns : List Int} {x : Int} (h : x ∉ ns) : (ns.filter fun n => !decide (n = x)) = ns := List.filter_eq_self.mpr fun z hz => by
  have : z ≠ x := fun e => h (e ▸ hz)
  rw [decide_eq_false this]; rfl
theorem SetN.aft {ns : List Int} (hs : SetN ns) (w : W5) {x : Int} (x0 : 0 ≤ x) (x1 : x ≤ 999999) (hp : w = .put → ¬ (ns.length = 40 ∧ x ∉ ns)) : SetN (aftS w ns x) := by
  cases w with
  | put =>
    show SetN (if x ∈ ns then ns else ns ++ [x])
    by_cases h : x ∈ ns
    · rw [if_pos h]; exact hs
    · rw [if_neg h]
      have hl := hs.len
      have hne : ns.length ≠ 40 := fun e => hp rfl ⟨e, h⟩
      refine ⟨by simp; omega, fun n hn => ?_, ?_⟩
      · rcases List.mem_append.mp hn with h' | h'
        · exact hs.rng n h'
        · rw [List.mem_singleton.mp h']; exact ⟨x0, x1⟩
      · rw [List.nodup_append]
        refine ⟨hs.nd, by simp, fun y hy z hz e => ?_⟩
        rw [List.mem_singleton.mp hz] at e
        exact h (e ▸ hy)
  | take => exact ⟨Nat.le_trans (List.length_filter_le _ _) hs.len, fun n hn => hs.rng n (List.mem_filter.mp hn).1, hs.nd.sublist List.filter_sublist⟩
  | has => exact hs
  | next => exact hs
  | rank => exact hs
theorem sh_set {ns : List Int} (hs : SetN ns) : Sh 1 2000 (.tup (ns.map .int)) := sh_tup (fun d hd => sh_ints (fun n hn => by have := hs.rng n hn; omega) hd) (by have := hs.len; rw [List.length_map]; omega)
theorem ints_inj {a b : List Int} (h : D.tup (a.map .int) = .tup (b.map .int)) : a = b := (List.map_inj_right (fun a b h => D.int.inj h)).mp (D.tup.inj h)
end
section
variable {K : PySem.W.Frag}
def HeapAt (K : PySem.W.Frag) (M : Mem) (a l : Addr) (ns : List Int) : Prop := M a = some (.ins (He.ga K "Heap") [("kept", .v (.ref l))]) ∧ M l = some (.om (.lst (ns.map .int))) ∧ Cls K (He.ga K "Heap") ∧ NoAttr K (He.ga K "Heap") "kept"
def looks (ns : List Int) (x : Int) : Int := if x ∈ ns then ((ns.idxOf x : Nat) : Int) + 1 else (ns.length : Nat)
def fs_Heap___init__ (K : PySem.W.Frag) : FS := fun ds M Q X => ∃ a d, ds = [.ref a, d] ∧ M a = some (.ins (He.ga K "Heap") []) ∧ Cls K (He.ga K "Heap") ∧ NoAttr K (He.ga K "Heap") "kept" ∧ d.da = true ∧ (isSetB d = false → X (He.ga K "NoThings") M) ∧
  ∀ ns l, d = .tup (ns.map .int) → SetN ns → M l = none → Q .non (mup (mup M l (.om (.lst (ns.map .int)))) a (.ins (He.ga K "Heap") [("kept", .v (.ref l))]))
theorem mo_Heap___init__ {K : PySem.W.Frag} : MonoF (fs_Heap___init__ K) := fun _ _ _ _ _ _ h hx ⟨a, d, e, c, c2, c3, c4, q, q2⟩ => ⟨a, d, e, c, c2, c3, c4, fun z => hx _ _ (q z), fun ns l z1 z2 z3 => h _ _ (q2 ns l z1 z2 z3)⟩
def Fk_Heap (K : PySem.W.Frag) : Prop := Cls K (He.ga K "Heap") ∧ NoAttr K (He.ga K "Heap") "kept"
/-- Heap.__init__ -/
def g_Heap___init__ (K : PySem.W.Frag) : GS := gSeq (gDrop (gCallP (fs_p_need_set K) (gCons (gV 1) gNil))) (gPutFM K "kept" (gV 0) (gFlist (gV 1)))
theorem h_Heap___init__ {K : PySem.W.Frag} : ∀ ds M Q X, (fs_Heap___init__ K) ds M Q X → ds.length = ([.v, .v] : List AK).length → g_Heap___init__ K { nx := fun _ M' => Q .non M', rt := Q } (entry 2 [.v, .v] ds X) M := by
  rintro ds M Q X ⟨a, d, rfl, ma, hc, hn, hd, q, q2⟩ -
  wp_walk using g_Heap___init__
  refine ⟨d, rfl, hd, fun h => ?_, q⟩
  obtain ⟨ns, rfl, hs⟩ := isSetB_iff.mp h
  wp_walk
  intro l nl
  have nal : a ≠ l := fun e => by rw [e, nl] at ma; cases ma
  rw [mup_ne nal, ma]
  exact ⟨⟨hc, hn⟩, by simp, q2 ns l rfl hs nl⟩
theorem lk_kept (v : Fl) : List.lookup ("kept" : PySem.Str) [(("kept" : PySem.Str), v)] = some v := rfl
def fs_Heap_looks (K : PySem.W.Frag) : FS := fun ds M Q _ => ∃ a l ns x, ds = [.ref a, .int x] ∧ HeapAt K M a l ns ∧ Q (.int (looks ns x)) M
theorem mo_Heap_looks {K : PySem.W.Frag} : MonoF (fs_Heap_looks K) := fun _ _ _ _ _ _ h _ ⟨a, l, ns, x, e, c, q⟩ => ⟨a, l, ns, x, e, c, h _ _ q⟩
/-- Heap.looks -/
def af1_Heap_looks (K : PySem.W.Frag) : GS := gRet (gCa gcLen (gCons (gDrf (gFld K "kept" (gV 0))) gNil))
def g_Heap_looks (K : PySem.W.Frag) : GS := gSeq (gIfS (gB (g2 (goIn false) (gV 1) (gDrf (gFld K "kept" (gV 0))))) (gRet (g2 goAdd (gMIdx (gFld K "kept" (gV 0)) (gV 1)) (gC (.int 1)))) (gNext)) (af1_Heap_looks K)
theorem h_Heap_looks {K : PySem.W.Frag} : ∀ ds M Q X, (fs_Heap_looks K) ds M Q X → ds.length = ([.v, .v] : List AK).length → g_Heap_looks K { nx := fun _ M' => Q .non M', rt := Q } (entry 2 [.v, .v] ds X) M := by
  rintro ds M Q X ⟨a, l, ns, x, rfl, ⟨ma, ml, hc, hn⟩, q⟩ -
  wp_walk using g_Heap_looks, ma, ml, hc, hn, lk_kept, goIn_lstI
  unfold looks at q
  by_cases h : x ∈ ns
  · rw [if_pos h] at q
    have eix := ixM_ints (x := x) (ns := ns) (k := fun j => Q (.int ((j : Nat) + 1)) M) h
    wp_walk using h, ma, ml, hc, hn, lk_kept
    rw [eix]
    exact q
  · rw [if_neg h] at q
    wp_walk using h, ma, ml, hc, hn, lk_kept, af1_Heap_looks
    exact q
theorem looks_of {M : Mem} {a l : Addr} {ns : List Int} {x : Int} {Q : D → Mem → Prop} {X : Addr → Mem → Prop} (h : HeapAt K M a l ns) (q : Q (.int (looks ns x)) M) : fs_Heap_looks K [.ref a, .int x] M Q X := ⟨a, l, ns, x, rfl, h, q⟩
/-- a deed of a heap: what is asked about may be anything -/
def heapF (K : PySem.W.Frag) (body : Addr → Addr → List Int → Int → Mem → (D → Mem → Prop) → (Addr → Mem → Prop) → Prop) : FS := fun ds M Q X => ∃ a l ns d, ds = [.ref a, d] ∧ HeapAt K M a l ns ∧ SetN ns ∧ d.da = true ∧ (isThing d = false → X (He.ga K "NoDeed") M) ∧ ∀ x, d = .int x → 0 ≤ x → x ≤ 999999 → body a l ns x M Q X
theorem heapF_mono {K : PySem.W.Frag} {body : Addr → Addr → List Int → Int → Mem → (D → Mem → Prop) → (Addr → Mem → Prop) → Prop} (hb : ∀ a l ns x M Q Q' X X', (∀ d M', Q d M' → Q' d M') → (∀ C M', X C M' → X' C M') → body a l ns x M Q X → body a l ns x M Q' X') : MonoF (heapF K body) := fun _ _ _ _ _ _ h hx ⟨a, l, ns, d, e, c, c2, c3, q, q2⟩ => ⟨a, l, ns, d, e, c, c2, c3, fun z => hx _ _ (q z), fun x e h0 h1 => hb _ _ _ _ _ _ _ _ _ h hx (q2 x e h0 h1)⟩
def fs_Heap_put (K : PySem.W.Frag) : FS := heapF K fun a l ns x M Q X => (x ∈ ns → Q (.tup [.int 0, .int (1 + looks ns x)]) M) ∧ (x ∉ ns → ns.length = 40 → X (He.ga K "TooMany") M) ∧ (x ∉ ns → ns.length ≠ 40 → Q (.tup [.int 1, .int (1 + looks ns x + 1)]) (mup M l (.om (.lst ((ns ++ [x]).map .int)))))
theorem mo_Heap_put {K : PySem.W.Frag} : MonoF (fs_Heap_put K) := heapF_mono fun _ _ _ _ _ _ _ _ _ h hx ⟨q1, q2, q3⟩ => ⟨fun z => h _ _ (q1 z), fun z z2 => hx _ _ (q2 z z2), fun z z2 => h _ _ (q3 z z2)⟩
/-- Heap.put -/
def af1_Heap_put (K : PySem.W.Frag) : GS := gSeq (gDrop (gCallP (fs_p_need_place K) (gCons (gDrf (gFld K "kept" (gV 0))) gNil))) (gSeq (gMApp (gFld K "kept" (gV 0)) (gV 1)) (gRet (gTup (gCons (gC (.int 1)) (gCons (g2 goAdd (gV 2) (gC (.int 1))) gNil)))))
def g_Heap_put (K : PySem.W.Frag) : GS := gSeq (gDrop (gCallP (fs_p_need_member K) (gCons (gV 1) gNil))) (gSeq (gSet 2 (g2 goAdd (gC (.int 1)) (gMeth "looks" [(He.ga K "Heap", fs_Heap_looks K)] (gV 0) (gCons (gV 1) gNil)))) (gSeq (gIfS (gB (g2 (goIn false) (gV 1) (gDrf (gFld K "kept" (gV 0))))) (gRet (gTup (gCons (gC (.int 0)) (gCons (gV 2) gNil)))) (gNext)) (af1_Heap_put K)))
theorem h_Heap_put {K : PySem.W.Frag} : ∀ ds M Q X, (fs_Heap_put K) ds M Q X → ds.length = ([.v, .v] : List AK).length → g_Heap_put K { nx := fun _ M' => Q .non M', rt := Q } (entry 3 [.v, .v] ds X) M := by
  rintro ds M Q X ⟨a, l, ns, d, rfl, hh, hs, hd, q, q2⟩ -
  obtain ⟨ma, ml, hc, hn⟩ := id hh
  wp_walk using g_Heap_put
  refine ⟨d, rfl, hd, fun h => ?_, q⟩
  obtain ⟨x, rfl, x0, x1⟩ := isThing_int h
  obtain ⟨q1, q2, q3⟩ := q2 x rfl x0 x1
  wp_walk using ma, ml, hc, hn
  refine ⟨rfl, _, List.mem_cons_self .., looks_of hh ?_⟩
  by_cases h : x ∈ ns
  · wp_walk using h, ma, ml, hc, hn, lk_kept, goIn_lstI
    exact q1 h
  · wp_walk using h, ma, ml, hc, hn, lk_kept, goIn_lstI, af1_Heap_put
    refine ⟨.lst (ns.map .int), ns.map .int, rfl, rfl, fun z => ?_, fun z => q2 h (by simpa using z)⟩
    wp_walk using h, ma, ml, hc, hn, lk_kept
    refine ⟨size_lt (by have := hs.len; omega), ?_⟩
    have q4 := q3 h (by simpa using z)
    rw [List.map_append] at q4
    exact q4
def fs_Heap_take (K : PySem.W.Frag) : FS := heapF K fun a l ns x M Q X => (x ∉ ns → Q (.tup [.int 0, .int (1 + looks ns x)]) M) ∧ (x ∈ ns → Q (.tup [.int 1, .int (1 + looks ns x + ((ns.length : Nat) - 1 : Int) - (ns.idxOf x : Nat))]) (mup M l (.om (.lst ((ns.eraseIdx (ns.idxOf x)).map .int)))))
theorem mo_Heap_take {K : PySem.W.Frag} : MonoF (fs_Heap_take K) := heapF_mono fun _ _ _ _ _ _ _ _ _ h hx ⟨q1, q2⟩ => ⟨fun z => h _ _ (q1 z), fun z => h _ _ (q2 z)⟩
/-- Heap.take -/
def af1_Heap_take (K : PySem.W.Frag) : GS := gSeq (gSet 3 (gMIdx (gFld K "kept" (gV 0)) (gV 1))) (gSeq (gDrop (gMPop (gFld K "kept" (gV 0)) (gV 3))) (gRet (gTup (gCons (gC (.int 1)) (gCons (g2 goSub (g2 goAdd (gV 2) (gCa gcLen (gCons (gDrf (gFld K "kept" (gV 0))) gNil))) (gV 3)) gNil)))))
def g_Heap_take (K : PySem.W.Frag) : GS := gSeq (gDrop (gCallP (fs_p_need_member K) (gCons (gV 1) gNil))) (gSeq (gSet 2 (g2 goAdd (gC (.int 1)) (gMeth "looks" [(He.ga K "Heap", fs_Heap_looks K)] (gV 0) (gCons (gV 1) gNil)))) (gSeq (gIfS (gB (g2 (goIn true) (gV 1) (gDrf (gFld K "kept" (gV 0))))) (gRet (gTup (gCons (gC (.int 0)) (gCons (gV 2) gNil)))) (gNext)) (af1_Heap_take K)))
theorem h_Heap_take {K : PySem.W.Frag} : ∀ ds M Q X, (fs_Heap_take K) ds M Q X → ds.length = ([.v, .v] : List AK).length → g_Heap_take K { nx := fun _ M' => Q .non M', rt := Q } (entry 4 [.v, .v] ds X) M := by
  rintro ds M Q X ⟨a, l, ns, d, rfl, hh, hs, hd, q, q2⟩ -
  obtain ⟨ma, ml, hc, hn⟩ := id hh
  wp_walk using g_Heap_take
  refine ⟨d, rfl, hd, fun h => ?_, q⟩
  obtain ⟨x, rfl, x0, x1⟩ := isThing_int h
  obtain ⟨q1, q2⟩ := q2 x rfl x0 x1
  wp_walk using ma, ml, hc, hn
  refine ⟨rfl, _, List.mem_cons_self .., looks_of hh ?_⟩
  by_cases h : x ∈ ns
  · have hix := List.idxOf_lt_length_of_mem h
    wp_walk using h, ma, ml, hc, hn, lk_kept, goIn_lstI, af1_Heap_take
    rw [ixM_ints h]
    wp_walk using h, ma, ml, hc, hn, lk_kept
    have hl := hs.len
    have nal : a ≠ l := fun e => by rw [e, ml] at ma; cases ma
    have eg : (ns.map D.int)[ns.idxOf x]? = some (.int x) := by
      rw [List.getElem?_map, List.getElem?_eq_getElem hix, List.getElem_idxOf]
      rfl
    rw [eg, erase_mapP]
    refine ⟨⟨by omega, by omega, by omega⟩, ?_⟩
    have ma2 : ∀ o, (mup M l o) a = some (.ins (He.ga K "Heap") [("kept", .v (.ref l))]) := fun o => by rw [mup_ne nal]; exact ma
    wp_walk using ma2, hc, hn, lk_kept, mup_same
    have el : (((ns.eraseIdx (ns.idxOf x)).length : Nat) : Int) = (ns.length : Nat) - 1 := by
      rw [List.length_eraseIdx_of_lt hix]
      omega
    rw [el]
    exact q2 h
  · wp_walk using h, ma, ml, hc, hn, lk_kept, goIn_lstI
    exact q1 h
def fs_Heap_has (K : PySem.W.Frag) : FS := heapF K fun a l ns x M Q X => Q (.tup [.int (if x ∈ ns then 1 else 0), .int (1 + looks ns x)]) M
def fs_Heap_next_from (K : PySem.W.Frag) : FS := heapF K fun a l ns x M Q X => Q (.tup [.int (leastFrom ns x), .int (1 + (ns.length : Nat))]) M
def fs_Heap_rank (K : PySem.W.Frag) : FS := heapF K fun a l ns x M Q X => Q (.tup [.int ((below ns x).length : Nat), .int (1 + (ns.length : Nat))]) M
def fs_Heap_form (K : PySem.W.Frag) : FS := fun ds M Q _ => ∃ a l ns, ds = [.ref a] ∧ HeapAt K M a l ns ∧ Q (.tup (ns.map .int)) M
theorem mo_Heap_form {K : PySem.W.Frag} : MonoF (fs_Heap_form K) := fun _ _ _ _ _ _ h _ ⟨a, l, ns, e, c, q⟩ => ⟨a, l, ns, e, c, h _ _ q⟩
/-- Heap.form -/
def g_Heap_form (K : PySem.W.Frag) : GS := gRet (gCa gcTuple (gCons (gDrf (gFld K "kept" (gV 0))) gNil))
theorem h_Heap_form {K : PySem.W.Frag} : ∀ ds M Q X, (fs_Heap_form K) ds M Q X → ds.length = ([.v] : List AK).length → g_Heap_form K { nx := fun _ M' => Q .non M', rt := Q } (entry 1 [.v] ds X) M := by
  rintro ds M Q X ⟨a, l, ns, rfl, ⟨ma, ml, hc, hn⟩, q⟩ -
  wp_walk using g_Heap_form, ma, ml, hc, hn, lk_kept
  exact q
end
section
variable {K : PySem.W.Frag}
def stpH : W5 → List Int → Int → Int
  | .put, ns, x => if x ∈ ns then 2 + (ns.idxOf x : Nat) else 2 + (ns.length : Nat)
  | .take, ns, x => if x ∈ ns then 1 + (ns.length : Nat) else 1 + (ns.length : Nat)
  | .has, ns, x => if x ∈ ns then 2 + (ns.idxOf x : Nat) else 1 + (ns.length : Nat)
  | .next, ns, _ => 1 + (ns.length : Nat)
  | .rank, ns, _ => 1 + (ns.length : Nat)
end
section
variable {K : PySem.W.Frag}
def above (ns : List Int) (x : Int) : List Int := ns.filter fun n => decide (x ≤ n)
/-- how many looks halving takes -/
def lkH (row : List Int) (x : Int) : Nat := if h : row.length = 0 then 0 else 1 + (if row.getD (row.length / 2) 0 < x then lkH (row.drop (row.length / 2 + 1)) x else lkH (row.take (row.length / 2)) x)
termination_by row.length
decreasing_by
  · rw [List.length_drop]; omega
  · rw [List.length_take]; omega
theorem srt_split {x : Int} : ∀ {ks : List Int}, ks.Pairwise (· < ·) → ks = below ks x ++ above ks x
  | [], _ => rfl
  | k :: ks, h => by
    obtain ⟨h1, h2⟩ := List.pairwise_cons.mp h
    unfold below above
    rw [List.filter_cons, List.filter_cons]
    by_cases e : k < x
    · rw [decide_eq_true e, decide_eq_false (by omega), if_pos rfl, if_neg Bool.false_ne_true]
      show k :: ks = k :: (below ks x ++ above ks x)
      rw [← srt_split h2]
    · rw [decide_eq_false e, decide_eq_true (by omega), if_pos rfl, if_neg Bool.false_ne_true]
      have e0 : below ks x = [] := List.filter_eq_nil_iff.mpr fun z hz => by
        have := h1 z hz
        rw [decide_eq_true_eq]
        omega
      have e1 : above ks x = ks := List.filter_eq_self.mpr fun z hz => by
        have := h1 z hz
        exact decide_eq_true (by omega)
      show k :: ks = below ks x ++ k :: above ks x
      rw [e0, e1]
      rfl
theorem srt_lt {ks ns : List Int} (hp : ks.Perm ns) (hn : ns.Nodup) (h : ks.Pairwise (· ≤ ·)) : ks.Pairwise (· < ·) := by
  have hk : ks.Nodup := hp.nodup_iff.mpr hn
  exact (List.pairwise_and_iff.mpr ⟨h, hk⟩).imp fun ⟨h1, h2⟩ => by omega
/-- the things, rising -/
def srt (ns : List Int) : List Int := ns.mergeSort fun a b => decide (a ≤ b)
theorem srt_perm (ns : List Int) : (srt ns).Perm ns := List.mergeSort_perm _ _
theorem srt_pair (ns : List Int) : (srt ns).Pairwise (· ≤ ·) := (List.pairwise_mergeSort (le := fun a b : Int => decide (a ≤ b)) (fun a b c h1 h2 => by rw [decide_eq_true_eq] at h1 h2 ⊢; omega) (fun a b => by simp only [Bool.or_eq_true, decide_eq_true_eq]; omega) ns).imp fun h => of_decide_eq_true h
theorem srt_lts {ns : List Int} (hn : ns.Nodup) : (srt ns).Pairwise (· < ·) := srt_lt (srt_perm ns) hn (srt_pair ns)
theorem srt_eq {ks ns : List Int} (hp : ks.Perm ns) (h : ks.Pairwise (· ≤ ·)) : ks = srt ns :=
  List.Perm.eq_of_pairwise (le := (· ≤ ·)) (fun a b _ _ h1 h2 => Int.le_antisymm h1 h2) h (srt_pair ns) (hp.trans (srt_perm ns).symm)
theorem srt_len (ns : List Int) : (srt ns).length = ns.length := (srt_perm ns).length_eq
theorem srt_mem {ns : List Int} {x : Int} : x ∈ srt ns ↔ x ∈ ns := (srt_perm ns).mem_iff
theorem SetN.srt {ns : List Int} (h : SetN ns) : SetN (srt ns) := ⟨by rw [srt_len]; exact h.len, fun n hn => h.rng n (srt_mem.mp hn), (srt_perm ns).nodup_iff.mpr h.nd⟩
theorem below_perm {ks ns : List Int} (h : ks.Perm ns) (x : Int) : (below ks x).length = (below ns x).length := (h.filter _).length_eq
def KeptAt (K : PySem.W.Frag) (C : PySem.Str) (M : Mem) (a l : Addr) (ks : List Int) : Prop := M a = some (.ins (He.ga K C) [("kept", .v (.ref l))]) ∧ M l = some (.om (.lst (ks.map .int))) ∧ Cls K (He.ga K C) ∧ NoAttr K (He.ga K C) "kept"
theorem KeptAt.put {C : PySem.Str} {M : Mem} {a l : Addr} {ns : List Int} (h : KeptAt K C M a l ns) (ms : List Int) : KeptAt K C (mup M l (.om (.lst (ms.map .int)))) a l ms := by
  obtain ⟨h1, h2, h3, h4⟩ := h
  have nal : a ≠ l := fun e => by rw [e, h2] at h1; cases h1
  exact ⟨by rw [mup_ne nal]; exact h1, mup_same, h3, h4⟩
/-- looks of found: the end of the row is told without one -/
def fnd (lk : List Int → Int → Nat) (ks : List Int) (x : Int) : Int := 1 + (lk ks x : Nat) + (if above ks x = [] then 0 else 1)
theorem above_sorted {x : Int} {ks : List Int} (h : ks.Pairwise (· < ·)) : (above ks x).Pairwise (· < ·) := h.sublist List.filter_sublist
theorem mem_above {x : Int} {ks : List Int} : x ∈ above ks x ↔ x ∈ ks := by
  unfold above
  rw [List.mem_filter, decide_eq_true_eq]
  exact ⟨fun h => h.1, fun h => ⟨h, Int.le_refl _⟩⟩
theorem above_head {ks hi : List Int} {x y : Int} (hk : ks.Pairwise (· < ·)) (ea : above ks x = y :: hi) : y ∈ ks ∧ x ≤ y ∧ ∀ z ∈ hi, y < z := by
  have h2 := above_sorted (x := x) hk
  rw [ea] at h2
  have h4 : y ∈ above ks x := by rw [ea]; exact List.mem_cons_self ..
  obtain ⟨h5, h6⟩ := List.mem_filter.mp h4
  exact ⟨h5, of_decide_eq_true h6, (List.pairwise_cons.mp h2).1⟩
theorem above_in {ks hi : List Int} {x y : Int} (hk : ks.Pairwise (· < ·)) (ea : above ks x = y :: hi) : decide (y = x) = decide (x ∈ ks) := by
  obtain ⟨h1, h2, h3⟩ := above_head hk ea
  rw [Bool.eq_iff_iff, decide_eq_true_eq, decide_eq_true_eq, ← mem_above, ea]
  constructor
  · rintro rfl
    exact List.mem_cons_self ..
  · intro h
    rcases List.mem_cons.mp h with h | h
    · exact h.symm
    · have := h3 x h
      omega
/-- a deed of a kept set: what is asked about may be anything -/
def keptF (K : PySem.W.Frag) (C : PySem.Str) (body : Addr → Addr → List Int → Int → Mem → (D → Mem → Prop) → (Addr → Mem → Prop) → Prop) : FS := fun ds M Q X => ∃ a l ks d, ds = [.ref a, d] ∧ KeptAt K C M a l ks ∧ SetN ks ∧ ks.Pairwise (· < ·) ∧ d.da = true ∧ (isThing d = false → X (He.ga K "NoDeed") M) ∧ ∀ x, d = .int x → 0 ≤ x → x ≤ 999999 → body a l ks x M Q X
def fs_Line___init__ (K : PySem.W.Frag) : FS := fun ds M Q X => ∃ a d, ds = [.ref a, d] ∧ M a = some (.ins (He.ga K "Line") []) ∧ Cls K (He.ga K "Line") ∧ NoAttr K (He.ga K "Line") "kept" ∧ d.da = true ∧ (isSetB d = false → X (He.ga K "NoThings") M) ∧
  ∀ (ns : List Int) (l : Addr), d = .tup (ns.map .int) → SetN ns → M l = none → Q .non (mup (mup M l (.om (.lst ((srt ns).map .int)))) a (.ins (He.ga K "Line") [("kept", .v (.ref l))]))
theorem mo_Line___init__ {K : PySem.W.Frag} : MonoF (fs_Line___init__ K) := fun _ _ _ _ _ _ h hx ⟨a, d, e, c, c2, c3, c4, q, q2⟩ => ⟨a, d, e, c, c2, c3, c4, fun z => hx _ _ (q z), fun ns l z1 z2 z3 => h _ _ (q2 ns l z1 z2 z3)⟩
def Fk_Line (K : PySem.W.Frag) : Prop := Cls K (He.ga K "Line") ∧ NoAttr K (He.ga K "Line") "kept"
def miL (ks : List Int) (p : Int) : Int := 1 + (ks.length : Nat) - p
def moL (ks : List Int) (p : Int) : Int := (ks.length : Nat) - p - 1
def fs_Line_form (K : PySem.W.Frag) : FS := fun ds M Q _ => ∃ (a l : Addr) (ks : List Int), ds = [.ref a] ∧ KeptAt K "Line" M a l ks ∧ ks.length ≤ 1000 ∧ Q (.tup (ks.map .int)) M
def fs_Line_has (K : PySem.W.Frag) : FS := keptF K "Line" fun a l ks x M Q X => Q (.tup [.int (if x ∈ ks then 1 else 0), .int (fnd lkH ks x)]) M
def fs_Line_rank (K : PySem.W.Frag) : FS := keptF K "Line" fun a l ks x M Q X => Q (.tup [.int ((below ks x).length : Nat), .int (1 + (lkH ks x : Nat))]) M
def fs_Line_next_from (K : PySem.W.Frag) : FS := keptF K "Line" fun a l ks x M Q X => Q (.tup [.int (leastFrom ks x), .int (fnd lkH ks x)]) M
def fs_Line_put (K : PySem.W.Frag) : FS := keptF K "Line" fun a l ks x M Q X => (x ∈ ks → Q (.tup [.int 0, .int (fnd lkH ks x)]) M) ∧ (x ∉ ks → ks.length = 40 → X (He.ga K "TooMany") M) ∧ (x ∉ ks → ks.length ≠ 40 → Q (.tup [.int 1, .int (fnd lkH ks x + miL ks ((below ks x).length : Nat))]) (mup M l (.om (.lst ((below ks x ++ x :: above ks x).map .int)))))
def fs_Line_take (K : PySem.W.Frag) : FS := keptF K "Line" fun a l ks x M Q X => (x ∉ ks → Q (.tup [.int 0, .int (fnd lkH ks x)]) M) ∧ (x ∈ ks → Q (.tup [.int 1, .int (fnd lkH ks x + moL ks ((below ks x).length : Nat))]) (mup M l (.om (.lst ((ks.eraseIdx (below ks x).length).map .int)))))
theorem mn_perm {ks ns : List Int} (h : ks.Perm ns) : mnD ks (-1) = mnD ns (-1) := by
  unfold mnD
  by_cases e : ns = []
  · subst e
    rw [List.perm_nil.mp h]
  · have e' : ks ≠ [] := fun z => by subst z; exact e (List.nil_perm.mp h)
    rw [if_neg e, if_neg e', mn_eq (ns := ns) (m := mn ks) (h.mem_iff.mp (mn_mem e')) fun y hy => mn_le (h.mem_iff.mpr hy)]
theorem least_perm {ks ns : List Int} (h : ks.Perm ns) (x : Int) : leastFrom ks x = leastFrom ns x := mn_perm (h.filter _)
theorem srt_put {ns : List Int} {x : Int} (hs : SetN ns) (h : x ∉ ns) : below (srt ns) x ++ x :: above (srt ns) x = srt (ns ++ [x]) := by
  have hk := srt_lts hs.nd
  have es := srt_split (x := x) hk
  refine srt_eq ?_ ?_
  · refine List.perm_middle.trans ?_
    rw [← es]
    exact ((srt_perm ns).cons x).trans (List.perm_append_singleton x ns).symm
  · rw [List.pairwise_append]
    refine ⟨(srt_pair ns).sublist List.filter_sublist, ?_, fun a ha b hb => ?_⟩
    · rw [List.pairwise_cons]
      exact ⟨fun b hb => of_decide_eq_true (List.mem_filter.mp hb).2, (srt_pair ns).sublist List.filter_sublist⟩
    · have h1 : a < x := of_decide_eq_true (List.mem_filter.mp ha).2
      rcases List.mem_cons.mp hb with rfl | hb
      · omega
      · have h2 : x ≤ b := of_decide_eq_true (List.mem_filter.mp hb).2
        omega
theorem srt_take {ns : List Int} {x : Int} (hs : SetN ns) (h : x ∈ ns) : (srt ns).eraseIdx (below (srt ns) x).length = srt (ns.filter fun n => !decide (n = x)) := by
  have hk := srt_lts hs.nd
  have es := srt_split (x := x) hk
  have hm : x ∈ srt ns := srt_mem.mpr h
  have ei : (srt ns).idxOf x = (below (srt ns) x).length := by
    cases ea : above (srt ns) x with
    | nil => rw [← mem_above, ea] at hm; cases hm
    | cons y hi =>
      have ey : y = x := of_decide_eq_true ((above_in hk ea).trans (decide_eq_true hm))
      subst ey
      have hb : y ∉ below (srt ns) y := fun z => by
        have := of_decide_eq_true (List.mem_filter.mp z).2
        omega
      have e2 : (below (srt ns) y ++ y :: hi).idxOf y = (below (srt ns) y).length := by
        rw [List.idxOf_append, if_neg hb, List.idxOf_cons_self, Nat.zero_add]
      rw [← ea, ← es] at e2
      exact e2
  rw [← ei, erase_filter _ _ hs.srt.nd hm]
  exact srt_eq ((srt_perm ns).filter _) ((srt_pair ns).sublist List.filter_sublist)
/-- the steps of a deed on a kept set -/
def stpK (lk : List Int → Int → Nat) (mi mo : List Int → Int → Int) (w : W5) (ns : List Int) (x : Int) : Int := match w with
  | .put => if x ∈ ns then fnd lk (srt ns) x else fnd lk (srt ns) x + mi (srt ns) ((below (srt ns) x).length : Nat)
  | .take => if x ∈ ns then fnd lk (srt ns) x + mo (srt ns) ((below (srt ns) x).length : Nat) else fnd lk (srt ns) x
  | .has => fnd lk (srt ns) x
  | .next => fnd lk (srt ns) x
  | .rank => 1 + (lk (srt ns) x : Nat)
theorem thing_not {x : Int} (x0 : 0 ≤ x) (x1 : x ≤ 999999) (h : isThing (.int x) = false) : False := by
  have h2 : (decide (0 ≤ x) && decide (x ≤ 999999)) = false := h
  rw [decide_eq_true x0, decide_eq_true x1] at h2
  cases h2
end
section
variable {K : PySem.W.Frag}
theorem sh_srt {ns : List Int} (hs : SetN ns) : Sh 1 2000 (.tup ((srt ns).map .int)) := sh_set hs.srt
end
section
variable {K : PySem.W.Frag}
def eight (row : List Int) (i : Nat) : List Int := (row.drop (8 * i)).take 8
def chk (row : List Int) : List (List Int) := (List.range ((row.length + 7) / 8)).map (eight row)
def tI (ns : List Int) : D := .tup (ns.map .int)
theorem chk_len (row : List Int) : (chk row).length = (row.length + 7) / 8 := by unfold chk; rw [List.length_map, List.length_range]
theorem eight_len (row : List Int) (i : Nat) : (eight row i).length = min 8 (row.length - 8 * i) := by unfold eight; rw [List.length_take, List.length_drop]
end
section
variable {K : PySem.W.Frag}
/-- the last of each eight -/
def lastE (l : List Int) : Int := l.getD (l.length - 1) 0
def lasts (row : List Int) : List Int := (chk row).map lastE
/-- looks by tiers -/
def lkT (ks : List Int) (x : Int) : Nat := lkH (lasts ks) x + if (below ks x).length = ks.length then 0 else lkH (eight ks ((below ks x).length / 8)) x
def tailT (ks : List Int) (p : Int) : Int := if p / 8 = ((ks.length + 7) / 8 : Nat) then 0 else ((eight ks (p / 8).toNat).length : Nat) - p % 8 + ((ks.length + 7) / 8 : Nat) - 1 - p / 8
def miT (ks : List Int) (p : Int) : Int := 1 + tailT ks p
def moT (ks : List Int) (p : Int) : Int := tailT ks p - 1
theorem chk_mem {row c : List Int} (h : c ∈ chk row) : c ≠ [] ∧ c.length ≤ 8 ∧ ∃ i, i < (row.length + 7) / 8 ∧ c = eight row i := by
  obtain ⟨i, hi, rfl⟩ := List.mem_map.mp h
  have hi := List.mem_range.mp hi
  have hl := eight_len row i
  exact ⟨fun e => by rw [e, List.length_nil] at hl; omega, by omega, i, hi, rfl⟩
def fs_Tiers___init__ (K : PySem.W.Frag) : FS := fun ds M Q X => ∃ a d, ds = [.ref a, d] ∧ M a = some (.ins (He.ga K "Tiers") []) ∧ Cls K (He.ga K "Tiers") ∧ NoAttr K (He.ga K "Tiers") "kept" ∧ d.da = true ∧ (isSetB d = false → X (He.ga K "NoThings") M) ∧
  ∀ (ns : List Int) (l : Addr), d = .tup (ns.map .int) → SetN ns → M l = none → Q .non (mup (mup M l (.om (.lst ((srt ns).map .int)))) a (.ins (He.ga K "Tiers") [("kept", .v (.ref l))]))
theorem mo_Tiers___init__ {K : PySem.W.Frag} : MonoF (fs_Tiers___init__ K) := fun _ _ _ _ _ _ h hx ⟨a, d, e, c, c2, c3, c4, q, q2⟩ => ⟨a, d, e, c, c2, c3, c4, fun z => hx _ _ (q z), fun ns l z1 z2 z3 => h _ _ (q2 ns l z1 z2 z3)⟩
def Fk_Tiers (K : PySem.W.Frag) : Prop := Cls K (He.ga K "Tiers") ∧ NoAttr K (He.ga K "Tiers") "kept"
def fs_Tiers_form (K : PySem.W.Frag) : FS := fun ds M Q _ => ∃ (a l : Addr) (ks : List Int), ds = [.ref a] ∧ KeptAt K "Tiers" M a l ks ∧ ks.length ≤ 1000 ∧ Q (.tup ((chk ks).map tI)) M
def fs_Tiers_has (K : PySem.W.Frag) : FS := keptF K "Tiers" fun a l ks x M Q X => Q (.tup [.int (if x ∈ ks then 1 else 0), .int (fnd lkT ks x)]) M
def fs_Tiers_rank (K : PySem.W.Frag) : FS := keptF K "Tiers" fun a l ks x M Q X => Q (.tup [.int ((below ks x).length : Nat), .int (1 + (lkT ks x : Nat))]) M
def fs_Tiers_next_from (K : PySem.W.Frag) : FS := keptF K "Tiers" fun a l ks x M Q X => Q (.tup [.int (leastFrom ks x), .int (fnd lkT ks x)]) M
def fs_Tiers_put (K : PySem.W.Frag) : FS := keptF K "Tiers" fun a l ks x M Q X => (x ∈ ks → Q (.tup [.int 0, .int (fnd lkT ks x)]) M) ∧ (x ∉ ks → ks.length = 40 → X (He.ga K "TooMany") M) ∧ (x ∉ ks → ks.length ≠ 40 → Q (.tup [.int 1, .int (fnd lkT ks x + miT ks ((below ks x).length : Nat))]) (mup M l (.om (.lst ((below ks x ++ x :: above ks x).map .int)))))
def fs_Tiers_take (K : PySem.W.Frag) : FS := keptF K "Tiers" fun a l ks x M Q X => (x ∉ ks → Q (.tup [.int 0, .int (fnd lkT ks x)]) M) ∧ (x ∈ ks → Q (.tup [.int 1, .int (fnd lkT ks x + moT ks ((below ks x).length : Nat))]) (mup M l (.om (.lst ((ks.eraseIdx (below ks x).length).map .int)))))
end
section
variable {K : PySem.W.Frag}
theorem sh_chk {ns : List Int} (hs : SetN ns) : Sh 2 10000 (.tup ((chk (srt ns)).map tI)) := by
  refine sh_tup (k := 1) (w := 400) (fun d hd => ?_) ?_
  · obtain ⟨c, hc, rfl⟩ := List.mem_map.mp hd
    obtain ⟨_, h1, i, _, e⟩ := chk_mem hc
    refine sh_tup (k := 0) (w := 40) (fun d hd => sh_ints (fun n hn => ?_) hd) (by rw [List.length_map]; omega)
    have h2 : n ∈ srt ns := by
      rw [e] at hn
      exact List.mem_of_mem_drop (List.mem_of_mem_take hn)
    have := hs.srt.rng n h2
    omega
  · have := hs.srt.len
    rw [List.length_map, chk_len]
    omega
end
section
variable {K : PySem.W.Frag}
/-- deeds of a row -/
inductive RD where
  | at_ (i : Int) | into (i x : Int) | out (i : Int) | find (x : Int)
def RD.w : RD → PySem.Str
  | .at_ _ => "at"
  | .into _ _ => "into"
  | .out _ => "out"
  | .find _ => "find"
def RD.ns : RD → List Int
  | .at_ i => [i]
  | .into i x => [i, x]
  | .out i => [i]
  | .find x => [x]
def RD.d (r : RD) : D := .tup (.str r.w :: r.ns.map .int)
def thingN (x : Int) : Prop := 0 ≤ x ∧ x ≤ 999999
def RD.ok (r : RD) : Prop := ∀ x ∈ r.ns, thingN x
/-- deeds of a map -/
inductive MD where
  | set (k v : Int) | get (k : Int) | drop (k : Int) | next (k : Int)
def MD.w : MD → PySem.Str
  | .set _ _ => "set"
  | .get _ => "get"
  | .drop _ => "drop"
  | .next _ => "next"
def MD.k : MD → Int
  | .set k _ => k
  | .get k => k
  | .drop k => k
  | .next k => k
def MD.ns : MD → List Int
  | .set k v => [k, v]
  | .get k => [k]
  | .drop k => [k]
  | .next k => [k]
def MD.d (r : MD) : D := .tup (.str r.w :: r.ns.map .int)
def MD.ok (r : MD) : Prop := ∀ x ∈ r.ns, thingN x
/-- whether a deed brings one more onto a full row -/
def RD.more : RD → List Int → Prop
  | .into _ _, ns => ns.length = 40
  | _, _ => False
def MD.more : MD → List (Int × Int) → Prop
  | .set k _, ps => k ∉ ps.map (·.1) ∧ ps.length = 40
  | _, _ => False
theorem So.inj {a b : So} (h : D.str a.s = .str b.s) : a = b := by cases a <;> cases b <;> first | rfl | exact absurd (D.str.inj h) (by decide)
end
section
variable {K : PySem.W.Frag}
inductive KS where
  | heap | line | tiers
def KS.C : KS → PySem.Str
  | .heap => "Heap"
  | .line => "Line"
  | .tiers => "Tiers"
def KS.inn : KS → List Int → List Int
  | .heap, ns => ns
  | _, ns => srt ns
def KAt (K : PySem.W.Frag) (k : KS) (M : Mem) (a l : Addr) (ns : List Int) : Prop := KeptAt K k.C M a l (k.inn ns)
def stpA : KS → W5 → List Int → Int → Int
  | .heap, w, ns, x => stpH w ns x
  | .line, w, ns, x => stpK lkH miL moL w ns x
  | .tiers, w, ns, x => stpK lkT miT moT w ns x
def frmA : KS → List Int → D
  | .heap, ns => .tup (ns.map .int)
  | .line, ns => .tup ((srt ns).map .int)
  | .tiers, ns => .tup ((chk (srt ns)).map tI)
theorem KAt.frame {k : KS} {M M' : Mem} {a l : Addr} {ns : List Int} (h : KAt K k M a l ns) (e1 : M' a = M a) (e2 : M' l = M l) : KAt K k M' a l ns := by
  obtain ⟨h1, h2, h3, h4⟩ := h
  exact ⟨by rw [e1]; exact h1, by rw [e2]; exact h2, h3, h4⟩
/-- what a deed may change -/
def Deedy (K : PySem.W.Frag) (k : KS) (w : W5) (M : Mem) (a l : Addr) (ns : List Int) (x : Int) (Q : D → Mem → Prop) : Prop := ∀ M', (M' = M ∨ ∃ o, M' = mup M l o) → KAt K k M' a l (aftS w ns x) → Q (.tup [.int (telS w ns x), .int (stpA k w ns x)]) M'
def fsW (K : PySem.W.Frag) : KS → W5 → FS
  | .heap, .put => fs_Heap_put K
  | .heap, .take => fs_Heap_take K
  | .heap, .has => fs_Heap_has K
  | .heap, .next => fs_Heap_next_from K
  | .heap, .rank => fs_Heap_rank K
  | .line, .put => fs_Line_put K
  | .line, .take => fs_Line_take K
  | .line, .has => fs_Line_has K
  | .line, .next => fs_Line_next_from K
  | .line, .rank => fs_Line_rank K
  | .tiers, .put => fs_Tiers_put K
  | .tiers, .take => fs_Tiers_take K
  | .tiers, .has => fs_Tiers_has K
  | .tiers, .next => fs_Tiers_next_from K
  | .tiers, .rank => fs_Tiers_rank K
def fsForm (K : PySem.W.Frag) : KS → FS
  | .heap => fs_Heap_form K
  | .line => fs_Line_form K
  | .tiers => fs_Tiers_form K
section
variable {M : Mem} {a l : Addr} {ns : List Int} {d : D} {Q : D → Mem → Prop} {X : Addr → Mem → Prop}
theorem ask_heap (w : W5) (h : KAt K .heap M a l ns) (hs : SetN ns) (hd : d.da = true) (q1 : isThing d = false → X (He.ga K "NoDeed") M)
    (q2 : ∀ x, d = .int x → thingN x → (w = .put ∧ x ∉ ns ∧ ns.length = 40 → X (He.ga K "TooMany") M) ∧ (¬ (w = .put ∧ x ∉ ns ∧ ns.length = 40) → Deedy K .heap w M a l ns x Q)) : fsW K .heap w [.ref a, d] M Q X := by
  have hh : HeapAt K M a l ns := h
  have put : ∀ ms : List Int, KAt K .heap (mup M l (.om (.lst (ms.map .int)))) a l ms := fun ms => h.put ms
  cases w
  case put =>
    refine ⟨a, l, ns, d, rfl, hh, hs, hd, q1, fun x e x0 x1 => ?_⟩
    obtain ⟨q3, q4⟩ := q2 x e ⟨x0, x1⟩
    refine ⟨fun h => ?_, fun h h40 => q3 ⟨rfl, h, h40⟩, fun h h40 => ?_⟩
    · have e1 : looks ns x = (ns.idxOf x : Nat) + 1 := if_pos h
      have q5 := q4 (fun z => z.2.1 h) M (.inl rfl) (by rw [show aftS .put ns x = ns from if_pos h]; exact hh)
      rw [show telS .put ns x = 0 from if_pos h, show stpA .heap .put ns x = 2 + (ns.idxOf x : Nat) from if_pos h] at q5
      rw [e1, show (1 + (((ns.idxOf x : Nat) : Int) + 1)) = 2 + (ns.idxOf x : Nat) by omega]
      exact q5
    · have e1 : looks ns x = (ns.length : Nat) := if_neg h
      have q5 := q4 (fun z => h40 z.2.2) _ (.inr ⟨_, rfl⟩) (by rw [show aftS .put ns x = ns ++ [x] from if_neg h]; exact put _)
      rw [show telS .put ns x = 1 from if_neg h, show stpA .heap .put ns x = 2 + (ns.length : Nat) from if_neg h] at q5
      rw [e1, show (1 + ((ns.length : Nat) : Int) + 1) = 2 + (ns.length : Nat) by omega]
      exact q5
  case take =>
    refine ⟨a, l, ns, d, rfl, hh, hs, hd, q1, fun x e x0 x1 => ?_⟩
    obtain ⟨q3, q4⟩ := q2 x e ⟨x0, x1⟩
    have q4 := q4 fun z => by cases z.1
    refine ⟨fun h => ?_, fun h => ?_⟩
    · have e1 : looks ns x = (ns.length : Nat) := if_neg h
      have q5 := q4 M (.inl rfl) (by rw [show aftS .take ns x = ns from filter_absent h]; exact hh)
      rw [show telS .take ns x = 0 from if_neg h, show stpA .heap .take ns x = 1 + (ns.length : Nat) from if_neg h] at q5
      rw [e1]
      exact q5
    · have e1 : looks ns x = (ns.idxOf x : Nat) + 1 := if_pos h
      have q5 := q4 _ (.inr ⟨_, rfl⟩) (put (aftS .take ns x))
      rw [show telS .take ns x = 1 from if_pos h, show stpA .heap .take ns x = 1 + (ns.length : Nat) from if_pos h, show aftS .take ns x = ns.eraseIdx (ns.idxOf x) from (erase_filter ns x hs.nd h).symm] at q5
      rw [e1, show (1 + (((ns.idxOf x : Nat) : Int) + 1) + ((ns.length : Nat) - 1 : Int) - (ns.idxOf x : Nat)) = 1 + (ns.length : Nat) by omega]
      exact q5
  case has =>
    refine ⟨a, l, ns, d, rfl, hh, hs, hd, q1, fun x e x0 x1 => ?_⟩
    obtain ⟨q3, q4⟩ := q2 x e ⟨x0, x1⟩
    have q5 := q4 (fun z => by cases z.1) M (.inl rfl) hh
    have e4 : 1 + looks ns x = stpA .heap .has ns x := by
      unfold looks stpA stpH
      by_cases h : x ∈ ns
      · rw [if_pos h]
        simp only [if_pos h]
        omega
      · rw [if_neg h]
        simp only [if_neg h]
    show Q (.tup [.int (if x ∈ ns then 1 else 0), .int (1 + looks ns x)]) M
    rw [e4]
    exact q5
  case next =>
    refine ⟨a, l, ns, d, rfl, hh, hs, hd, q1, fun x e x0 x1 => ?_⟩
    obtain ⟨q3, q4⟩ := q2 x e ⟨x0, x1⟩
    exact q4 (fun z => by cases z.1) M (.inl rfl) hh
  case rank =>
    refine ⟨a, l, ns, d, rfl, hh, hs, hd, q1, fun x e x0 x1 => ?_⟩
    obtain ⟨q3, q4⟩ := q2 x e ⟨x0, x1⟩
    exact q4 (fun z => by cases z.1) M (.inl rfl) hh
theorem ask_line (w : W5) (h : KAt K .line M a l ns) (hs : SetN ns) (hd : d.da = true) (q1 : isThing d = false → X (He.ga K "NoDeed") M)
    (q2 : ∀ x, d = .int x → thingN x → (w = .put ∧ x ∉ ns ∧ ns.length = 40 → X (He.ga K "TooMany") M) ∧ (¬ (w = .put ∧ x ∉ ns ∧ ns.length = 40) → Deedy K .line w M a l ns x Q)) : fsW K .line w [.ref a, d] M Q X := by
  have hh : KeptAt K "Line" M a l (srt ns) := h
  have hl := srt_len ns
  have put : ∀ ms : List Int, KAt K .line (mup M l (.om (.lst ((srt ms).map .int)))) a l ms := fun ms => h.put (srt ms)
  cases w
  case put =>
    refine ⟨a, l, srt ns, d, rfl, hh, hs.srt, srt_lts hs.nd, hd, q1, fun x e x0 x1 => ?_⟩
    obtain ⟨q3, q4⟩ := q2 x e ⟨x0, x1⟩
    refine ⟨fun h => ?_, fun h h40 => q3 ⟨rfl, fun z => h (srt_mem.mpr z), by omega⟩, fun h h40 => ?_⟩
    · have h' := srt_mem.mp h
      have q5 := q4 (fun z => z.2.1 h') M (.inl rfl) (by rw [show aftS .put ns x = ns from if_pos h']; exact hh)
      rw [show telS .put ns x = 0 from if_pos h', show stpA .line .put ns x = fnd lkH (srt ns) x from if_pos h'] at q5
      exact q5
    · have h' : ¬ x ∈ ns := fun z => h (srt_mem.mpr z)
      have q5 := q4 (fun z => h40 (by omega)) _ (.inr ⟨_, rfl⟩) (by rw [show aftS .put ns x = ns ++ [x] from if_neg h']; exact put _)
      rw [show telS .put ns x = 1 from if_neg h', show stpA .line .put ns x = fnd lkH (srt ns) x + miL (srt ns) ((below (srt ns) x).length : Nat) from if_neg h'] at q5
      rw [srt_put hs h']
      exact q5
  case take =>
    refine ⟨a, l, srt ns, d, rfl, hh, hs.srt, srt_lts hs.nd, hd, q1, fun x e x0 x1 => ?_⟩
    obtain ⟨q3, q4⟩ := q2 x e ⟨x0, x1⟩
    have q4 := q4 fun z => by cases z.1
    refine ⟨fun h => ?_, fun h => ?_⟩
    · have h' : ¬ x ∈ ns := fun z => h (srt_mem.mpr z)
      have q5 := q4 M (.inl rfl) (by rw [show aftS .take ns x = ns from filter_absent h']; exact hh)
      rw [show telS .take ns x = 0 from if_neg h', show stpA .line .take ns x = fnd lkH (srt ns) x from if_neg h'] at q5
      exact q5
    · have h' := srt_mem.mp h
      have q5 := q4 _ (.inr ⟨_, rfl⟩) (put (aftS .take ns x))
      rw [show telS .take ns x = 1 from if_pos h', show stpA .line .take ns x = fnd lkH (srt ns) x + moL (srt ns) ((below (srt ns) x).length : Nat) from if_pos h'] at q5
      rw [srt_take hs h']
      exact q5
  case has =>
    refine ⟨a, l, srt ns, d, rfl, hh, hs.srt, srt_lts hs.nd, hd, q1, fun x e x0 x1 => ?_⟩
    obtain ⟨q3, q4⟩ := q2 x e ⟨x0, x1⟩
    have q5 := q4 (fun z => by cases z.1) M (.inl rfl) hh
    have e3 : telS .has ns x = if x ∈ srt ns then 1 else 0 := by
      by_cases h : x ∈ ns
      · rw [if_pos (srt_mem.mpr h)]; exact if_pos h
      · rw [if_neg fun z => h (srt_mem.mp z)]; exact if_neg h
    rw [e3] at q5
    exact q5
  case next =>
    refine ⟨a, l, srt ns, d, rfl, hh, hs.srt, srt_lts hs.nd, hd, q1, fun x e x0 x1 => ?_⟩
    obtain ⟨q3, q4⟩ := q2 x e ⟨x0, x1⟩
    have q5 := q4 (fun z => by cases z.1) M (.inl rfl) hh
    rw [show telS .next ns x = leastFrom (srt ns) x from (least_perm (srt_perm ns) x).symm] at q5
    exact q5
  case rank =>
    refine ⟨a, l, srt ns, d, rfl, hh, hs.srt, srt_lts hs.nd, hd, q1, fun x e x0 x1 => ?_⟩
    obtain ⟨q3, q4⟩ := q2 x e ⟨x0, x1⟩
    have q5 := q4 (fun z => by cases z.1) M (.inl rfl) hh
    rw [show telS .rank ns x = ((below (srt ns) x).length : Nat) from by rw [below_perm (srt_perm ns)]; rfl] at q5
    exact q5
theorem ask_tiers (w : W5) (h : KAt K .tiers M a l ns) (hs : SetN ns) (hd : d.da = true) (q1 : isThing d = false → X (He.ga K "NoDeed") M)
    (q2 : ∀ x, d = .int x → thingN x → (w = .put ∧ x ∉ ns ∧ ns.length = 40 → X (He.ga K "TooMany") M) ∧ (¬ (w = .put ∧ x ∉ ns ∧ ns.length = 40) → Deedy K .tiers w M a l ns x Q)) : fsW K .tiers w [.ref a, d] M Q X := by
  have hh : KeptAt K "Tiers" M a l (srt ns) := h
  have hl := srt_len ns
  have put : ∀ ms : List Int, KAt K .tiers (mup M l (.om (.lst ((srt ms).map .int)))) a l ms := fun ms => h.put (srt ms)
  cases w
  case put =>
    refine ⟨a, l, srt ns, d, rfl, hh, hs.srt, srt_lts hs.nd, hd, q1, fun x e x0 x1 => ?_⟩
    obtain ⟨q3, q4⟩ := q2 x e ⟨x0, x1⟩
    refine ⟨fun h => ?_, fun h h40 => q3 ⟨rfl, fun z => h (srt_mem.mpr z), by omega⟩, fun h h40 => ?_⟩
    · have h' := srt_mem.mp h
      have q5 := q4 (fun z => z.2.1 h') M (.inl rfl) (by rw [show aftS .put ns x = ns from if_pos h']; exact hh)
      rw [show telS .put ns x = 0 from if_pos h', show stpA .tiers .put ns x = fnd lkT (srt ns) x from if_pos h'] at q5
      exact q5
    · have h' : ¬ x ∈ ns := fun z => h (srt_mem.mpr z)
      have q5 := q4 (fun z => h40 (by omega)) _ (.inr ⟨_, rfl⟩) (by rw [show aftS .put ns x = ns ++ [x] from if_neg h']; exact put _)
      rw [show telS .put ns x = 1 from if_neg h', show stpA .tiers .put ns x = fnd lkT (srt ns) x + miT (srt ns) ((below (srt ns) x).length : Nat) from if_neg h'] at q5
      rw [srt_put hs h']
      exact q5
  case take =>
    refine ⟨a, l, srt ns, d, rfl, hh, hs.srt, srt_lts hs.nd, hd, q1, fun x e x0 x1 => ?_⟩
    obtain ⟨q3, q4⟩ := q2 x e ⟨x0, x1⟩
    have q4 := q4 fun z => by cases z.1
    refine ⟨fun h => ?_, fun h => ?_⟩
    · have h' : ¬ x ∈ ns := fun z => h (srt_mem.mpr z)
      have q5 := q4 M (.inl rfl) (by rw [show aftS .take ns x = ns from filter_absent h']; exact hh)
      rw [show telS .take ns x = 0 from if_neg h', show stpA .tiers .take ns x = fnd lkT (srt ns) x from if_neg h'] at q5
      exact q5
    · have h' := srt_mem.mp h
      have q5 := q4 _ (.inr ⟨_, rfl⟩) (put (aftS .take ns x))
      rw [show telS .take ns x = 1 from if_pos h', show stpA .tiers .take ns x = fnd lkT (srt ns) x + moT (srt ns) ((below (srt ns) x).length : Nat) from if_pos h'] at q5
      rw [srt_take hs h']
      exact q5
  case has =>
    refine ⟨a, l, srt ns, d, rfl, hh, hs.srt, srt_lts hs.nd, hd, q1, fun x e x0 x1 => ?_⟩
    obtain ⟨q3, q4⟩ := q2 x e ⟨x0, x1⟩
    have q5 := q4 (fun z => by cases z.1) M (.inl rfl) hh
    have e3 : telS .has ns x = if x ∈ srt ns then 1 else 0 := by
      by_cases h : x ∈ ns
      · rw [if_pos (srt_mem.mpr h)]; exact if_pos h
      · rw [if_neg fun z => h (srt_mem.mp z)]; exact if_neg h
    rw [e3] at q5
    exact q5
  case next =>
    refine ⟨a, l, srt ns, d, rfl, hh, hs.srt, srt_lts hs.nd, hd, q1, fun x e x0 x1 => ?_⟩
    obtain ⟨q3, q4⟩ := q2 x e ⟨x0, x1⟩
    have q5 := q4 (fun z => by cases z.1) M (.inl rfl) hh
    rw [show telS .next ns x = leastFrom (srt ns) x from (least_perm (srt_perm ns) x).symm] at q5
    exact q5
  case rank =>
    refine ⟨a, l, srt ns, d, rfl, hh, hs.srt, srt_lts hs.nd, hd, q1, fun x e x0 x1 => ?_⟩
    obtain ⟨q3, q4⟩ := q2 x e ⟨x0, x1⟩
    have q5 := q4 (fun z => by cases z.1) M (.inl rfl) hh
    rw [show telS .rank ns x = ((below (srt ns) x).length : Nat) from by rw [below_perm (srt_perm ns)]; rfl] at q5
    exact q5
theorem ask_of {k : KS} (w : W5) (h : KAt K k M a l ns) (hs : SetN ns) (hd : d.da = true) (q1 : isThing d = false → X (He.ga K "NoDeed") M)
    (q2 : ∀ x, d = .int x → thingN x → (w = .put ∧ x ∉ ns ∧ ns.length = 40 → X (He.ga K "TooMany") M) ∧ (¬ (w = .put ∧ x ∉ ns ∧ ns.length = 40) → Deedy K k w M a l ns x Q)) : fsW K k w [.ref a, d] M Q X := by
  cases k
  · exact ask_heap w h hs hd q1 q2
  · exact ask_line w h hs hd q1 q2
  · exact ask_tiers w h hs hd q1 q2
theorem form_of {k : KS} (h : KAt K k M a l ns) (hs : SetN ns) (q : Q (frmA k ns) M) : fsForm K k [.ref a] M Q X := by
  have hl := hs.srt.len
  cases k
  · exact ⟨a, l, ns, rfl, h, q⟩
  · exact ⟨a, l, srt ns, rfl, h, by omega, q⟩
  · exact ⟨a, l, srt ns, rfl, h, by omega, q⟩
/-- a shelf is made -/
def fsInit (K : PySem.W.Frag) : KS → FS
  | .heap => fs_Heap___init__ K
  | .line => fs_Line___init__ K
  | .tiers => fs_Tiers___init__ K
def FkA (K : PySem.W.Frag) : KS → Prop
  | .heap => Fk_Heap K
  | .line => Fk_Line K
  | .tiers => Fk_Tiers K
theorem make_of (k : KS) (hd : d.da = true) (q1 : isSetB d = false → ∀ y o, M y = none → X (He.ga K "NoThings") (mup M y o))
    (q2 : ∀ ns, d = .tup (ns.map .int) → SetN ns → ∀ y l M', M y = none → M l = none → y ≠ l → (∀ b, M b ≠ none → M' b = M b) → KAt K k M' y l ns → Q (.ref y) M') :
    FkA K k → ∀ y, M y = none → fsInit K k [.ref y, d] (mup M y (.ins (He.ga K k.C) [])) (fun e M2 => e = .non ∧ Q (.ref y) M2) X := by
  intro hF y ny
  have fin : ∀ (ns : List Int) (l : Addr), d = .tup (ns.map .int) → SetN ns → mup M y (.ins (He.ga K k.C) []) l = none → Cls K (He.ga K k.C) → NoAttr K (He.ga K k.C) "kept" →
      Q (.ref y) (mup (mup (mup M y (.ins (He.ga K k.C) [])) l (.om (.lst ((k.inn ns).map .int)))) y (.ins (He.ga K k.C) [("kept", .v (.ref l))])) := fun ns l e hs nl h1 h2 => by
    have nly : l ≠ y := fun e => by rw [e, mup_same] at nl; cases nl
    have nl' : M l = none := by rw [mup_ne nly] at nl; exact nl
    refine q2 ns e hs y l _ ny nl' (Ne.symm nly) (fun b hb => ?_) ⟨mup_same, by rw [mup_ne nly]; exact mup_same, h1, h2⟩
    have b1 : b ≠ y := fun e => hb (by rw [e, ny])
    have b2 : b ≠ l := fun e => hb (by rw [e, nl'])
    rw [mup_ne b1, mup_ne b2, mup_ne b1]
  cases k
  · exact ⟨y, d, rfl, mup_same, hF.1, hF.2, hd, fun z => q1 z y _ ny, fun ns l e hs nl => ⟨rfl, fin ns l e hs nl hF.1 hF.2⟩⟩
  · exact ⟨y, d, rfl, mup_same, hF.1, hF.2, hd, fun z => q1 z y _ ny, fun ns l e hs nl => ⟨rfl, fin ns l e hs nl hF.1 hF.2⟩⟩
  · exact ⟨y, d, rfl, mup_same, hF.1, hF.2, hd, fun z => q1 z y _ ny, fun ns l e hs nl => ⟨rfl, fin ns l e hs nl hF.1 hF.2⟩⟩
end
theorem sh_frm {ns : List Int} (hs : SetN ns) (k : KS) : Sh 2 10000 (frmA k ns) := by
  cases k
  · exact (sh_set hs).mono (by decide) (by decide)
  · exact (sh_srt hs).mono (by decide) (by decide)
  · exact sh_chk hs
end
section
variable {K : PySem.W.Frag}
theorem keep1 {M M' : Mem} {l b : Addr} (hM : M' = M ∨ ∃ o, M' = mup M l o) (h : b ≠ l) : M' b = M b := by
  rcases hM with rfl | ⟨o, rfl⟩
  · rfl
  · exact mup_ne h
theorem KAt.st_ne {k : KS} {M : Mem} {a l s : Addr} {ns : List Int} (h : KAt K k M a l ns) (hs : M s = some .st) : s ≠ a ∧ s ≠ l := ⟨fun e => (by rw [e, h.1] at hs; cases hs), fun e => (by rw [e, h.2.1] at hs; cases hs)⟩
/-- what is there stays, but at some places -/
def Keep (ls : List Addr) (M M' : Mem) : Prop := ∀ b, M b ≠ none → b ∉ ls → M' b = M b
theorem Keep.refl {ls : List Addr} {M : Mem} : Keep ls M M := fun _ _ _ => rfl
theorem Keep.trans {ls : List Addr} {M M' M'' : Mem} (h : Keep ls M M') (h2 : Keep ls M' M'') : Keep ls M M'' := fun b n m => by
  have e := h b n m
  rw [h2 b (by rw [e]; exact n) m, e]
theorem Keep.one {ls : List Addr} {M M' : Mem} {l : Addr} (hM : M' = M ∨ ∃ o, M' = mup M l o) (h : l ∈ ls) : Keep ls M M' := fun b _ m => keep1 hM fun e => m (e ▸ h)
theorem Keep.all {ls : List Addr} {M M' : Mem} (h : ∀ b, M b ≠ none → M' b = M b) : Keep ls M M' := fun b n _ => h b n
theorem Keep.there {ls : List Addr} {M M' : Mem} (h : Keep ls M M') {b : Addr} {o : MO} (hb : M b = some o) (hn : b ∉ ls) : M' b = some o := by rw [h b (by rw [hb]; exact fun z => nomatch z) hn, hb]
theorem KAt.keep {k : KS} {ls : List Addr} {M M' : Mem} {a l : Addr} {ns : List Int} (h : KAt K k M a l ns) (hk : Keep ls M M') (ha : a ∉ ls) (hl : l ∉ ls) : KAt K k M' a l ns :=
  h.frame (hk a (by rw [h.1]; exact fun z => nomatch z) ha) (hk l (by rw [h.2.1]; exact fun z => nomatch z) hl)
/-- the three of them, of the same things -/
structure Tri (K : PySem.W.Frag) (M : Mem) (a1 l1 a2 l2 a3 l3 : Addr) (ns : List Int) : Prop where
  h : KAt K .heap M a1 l1 ns
  n : KAt K .line M a2 l2 ns
  t : KAt K .tiers M a3 l3 ns
  d12 : l1 ≠ l2
  d13 : l1 ≠ l3
  d23 : l2 ≠ l3
theorem Tri.keep {ls : List Addr} {M M' : Mem} {a1 l1 a2 l2 a3 l3 : Addr} {ns : List Int} (T : Tri K M a1 l1 a2 l2 a3 l3 ns) (hk : ∀ b, M b ≠ none → M' b = M b) : Tri K M' a1 l1 a2 l2 a3 l3 ns := by
  have k : Keep [] M M' := Keep.all hk
  exact ⟨T.h.keep k (by simp) (by simp), T.n.keep k (by simp) (by simp), T.t.keep k (by simp) (by simp), T.d12, T.d13, T.d23⟩
theorem Tri.st {M : Mem} {a1 l1 a2 l2 a3 l3 s : Addr} {ns : List Int} (T : Tri K M a1 l1 a2 l2 a3 l3 ns) (hs : M s = some .st) : s ∉ [l1, l2, l3] := by
  have h1 := (T.h.st_ne hs).2
  have h2 := (T.n.st_ne hs).2
  have h3 := (T.t.st_ne hs).2
  simp [h1, h2, h3]
theorem Tri.of {M1 M2 M3 : Mem} {y1 m1 y2 m2 y3 m3 : Addr} {ns : List Int} (n2 : M1 m2 = none) (n3 : M2 m3 = none) (k2 : ∀ b, M1 b ≠ none → M2 b = M1 b) (k3 : ∀ b, M2 b ≠ none → M3 b = M2 b)
    (h1 : KAt K .heap M1 y1 m1 ns) (h2 : KAt K .line M2 y2 m2 ns) (h3 : KAt K .tiers M3 y3 m3 ns) : Tri K M3 y1 m1 y2 m2 y3 m3 ns := by
  have h12 := h1.keep (Keep.all (ls := []) k2) (by simp) (by simp)
  exact ⟨h12.keep (Keep.all (ls := []) k3) (by simp) (by simp), h2.keep (Keep.all (ls := []) k3) (by simp) (by simp), h3,
    fun e => (by rw [← e, h1.2.1] at n2; cases n2), fun e => (by rw [← e, h12.2.1] at n3; cases n3), fun e => (by rw [← e, h2.2.1] at n3; cases n3)⟩
end
section
/-- a loop over range(n), by how many turns are done -/
theorem loop_rng {gt : GG} {gb : GS} {D' : DEnds} (I : Nat → DL.Fr → Mem → Prop) (n : Nat) (h0 : ∀ r M, I n r M → D'.nx r M)
    (h1 : ∀ j < n, ∀ r M, I j r M → ∀ N : DL.Fr → Mem → Prop, (∀ r M, I (j + 1) r M → N r M) → gt (D.int (0 + (j : Nat))) r M fun r' M' => gb { D' with nx := N, ct := N, bk := D'.nx } r' M') :
    ∀ r M, I 0 r M → loopD gt gb ((List.range n).map fun i : Nat => D.int (0 + i)) D' r M := by
  have key := loop_mp (gt := gt) (gb := gb) (D' := D') (enc := fun (i : Nat) => D.int (0 + i)) (fun is r M => ∃ j ≤ n, is = (List.range n).drop j ∧ I j r M) ?_ ?_ (List.range n)
  · exact fun r M h => key r M ⟨0, Nat.zero_le _, rfl, h⟩
  · rintro r M ⟨j, hj, e, h⟩
    have hl := congrArg List.length e
    rw [List.length_drop, List.length_range, List.length_nil] at hl
    have : j = n := by omega
    subst this
    exact h0 r M h
  · rintro i is r M ⟨j, hj, e, h⟩ N hN
    have hl := congrArg List.length e
    rw [List.length_drop, List.length_range, List.length_cons] at hl
    have hjn : j < n := by omega
    rw [List.drop_eq_getElem_cons (by rw [List.length_range]; exact hjn)] at e
    obtain ⟨e1, e2⟩ := List.cons.inj e
    rw [List.getElem_range] at e1
    subst e1
    exact h1 i hjn r M h N fun r M h => hN r M ⟨i + 1, hjn, e2, h⟩
theorem loopM_mp {α : Type} {gt : GG} {gb : GS} {D' : DEnds} {l : Addr} {all : List D} {enc : α → D} (I : List α → DL.Fr → Mem → Prop) (hm : ∀ xs r M, I xs r M → M l = some (.om (.lst all))) (h0 : ∀ r M, I [] r M → D'.nx r M)
    (h1 : ∀ x xs r M, I (x :: xs) r M → ∀ N : DL.Fr → Mem → Prop, (∀ r M, I xs r M → N r M) → gt (enc x) r M fun r' M' => gb { D' with nx := N, ct := N, bk := D'.nx } r' M') :
    ∀ xs r M, I xs r M → loopDM gt gb l all (xs.map enc) D' r M
  | [], r, M, h => ⟨hm _ _ _ h, h0 r M h⟩
  | x :: xs, r, M, h => ⟨hm _ _ _ h, h1 x xs r M h _ (loopM_mp I hm h0 h1 xs)⟩
theorem loopM_rng {gt : GG} {gb : GS} {D' : DEnds} {l : Addr} {enc : Nat → D} {all : List D} (I : Nat → DL.Fr → Mem → Prop) (n : Nat) (hm : ∀ j r M, I j r M → M l = some (.om (.lst all))) (h0 : ∀ r M, I n r M → D'.nx r M)
    (h1 : ∀ j < n, ∀ r M, I j r M → ∀ N : DL.Fr → Mem → Prop, (∀ r M, I (j + 1) r M → N r M) → gt (enc j) r M fun r' M' => gb { D' with nx := N, ct := N, bk := D'.nx } r' M') :
    ∀ r M, I 0 r M → loopDM gt gb l all ((List.range n).map enc) D' r M := by
  have key := loopM_mp (gt := gt) (gb := gb) (D' := D') (l := l) (all := all) (enc := enc) (fun is r M => ∃ j ≤ n, is = (List.range n).drop j ∧ I j r M) ?_ ?_ ?_ (List.range n)
  · exact fun r M h => key r M ⟨0, Nat.zero_le _, rfl, h⟩
  · rintro is r M ⟨j, _, _, h⟩
    exact hm j r M h
  · rintro r M ⟨j, hj, e, h⟩
    have hl := congrArg List.length e
    rw [List.length_drop, List.length_range, List.length_nil] at hl
    have : j = n := by omega
    subst this
    exact h0 r M h
  · rintro i is r M ⟨j, hj, e, h⟩ N hN
    have hl := congrArg List.length e
    rw [List.length_drop, List.length_range, List.length_cons] at hl
    have hjn : j < n := by omega
    rw [List.drop_eq_getElem_cons (by rw [List.length_range]; exact hjn)] at e
    obtain ⟨e1, e2⟩ := List.cons.inj e
    rw [List.getElem_range] at e1
    subst e1
    exact h1 i hjn r M h N fun r M h => hN r M ⟨i + 1, hjn, e2, h⟩
end
section
variable {K : PySem.W.Frag}
def pail (ns : List Int) (i : Nat) : List Int := ns.filter fun x => decide (x % 8 = (i : Int))
theorem SetN.pail {ns : List Int} (hs : SetN ns) (i : Nat) : SetN (pail ns i) :=
  ⟨Nat.le_trans (List.length_filter_le ..) hs.len, fun n hn => hs.rng n (List.mem_filter.mp hn).1, hs.nd.sublist List.filter_sublist⟩
theorem mem_pail {ns : List Int} {i : Nat} {x : Int} : x ∈ pail ns i ↔ x ∈ ns ∧ x % 8 = (i : Int) := by unfold pail; rw [List.mem_filter, decide_eq_true_eq]
theorem pail_put {ns : List Int} {x : Int} {i : Nat} : pail (ns ++ [x]) i = if x % 8 = (i : Int) then pail ns i ++ [x] else pail ns i := by
  unfold pail
  rw [List.filter_append]
  split
  · rename_i h
    rw [List.filter_cons, if_pos (decide_eq_true h)]
    rfl
  · rename_i h
    rw [List.filter_cons, if_neg (by rw [decide_eq_true_eq]; exact h)]
    exact List.append_nil _
theorem pail_take {ns : List Int} {x : Int} {i : Nat} : pail (ns.filter fun n => !decide (n = x)) i = (pail ns i).filter fun n => !decide (n = x) := by
  unfold pail
  rw [List.filter_filter, List.filter_filter]
  exact List.filter_congr fun n _ => Bool.and_comm ..
theorem pail_aft {ns : List Int} (w : W5) {x : Int} (i : Nat) : pail (aftS w ns x) i = if x % 8 = (i : Int) then aftS w (pail ns i) x else pail ns i := by
  cases w
  case put =>
    show pail (if x ∈ ns then ns else ns ++ [x]) i = _
    by_cases h : x ∈ ns
    · rw [if_pos h]
      split
      · rename_i h2
        exact (if_pos (mem_pail.mpr ⟨h, h2⟩)).symm
      · rfl
    · rw [if_neg h, pail_put]
      split
      · exact (if_neg fun z => h (mem_pail.mp z).1).symm
      · rfl
  case take =>
    show pail (ns.filter fun n => !decide (n = x)) i = _
    rw [pail_take]
    split
    · rfl
    · rename_i h
      exact filter_absent fun z => h (mem_pail.mp z).2
  all_goals exact (ite_self _).symm
/-- pail by pail -/
def piled (ns : List Int) : List Int := ((List.range 8).map (pail ns)).flatten
theorem flat_count (ns : List Int) (x : Int) : (piled ns).count x = ns.count x := by
  unfold piled
  rw [List.count_flatten, List.map_map]
  have h0 := Int.emod_nonneg x (show (8 : Int) ≠ 0 by decide)
  have h1 := Int.emod_lt_of_pos x (show (0 : Int) < 8 by decide)
  have e : ∀ i : Nat, (List.count x ∘ pail ns) i = if x % 8 = (i : Int) then ns.count x else 0 := fun i => by
    show (pail ns i).count x = _
    unfold pail
    split
    · rename_i h
      exact List.count_filter (decide_eq_true h)
    · rename_i h
      exact List.count_eq_zero.mpr fun z => h (of_decide_eq_true (List.mem_filter.mp z).2)
  rw [List.map_congr_left (g := fun i : Nat => if x % 8 = (i : Int) then ns.count x else 0) fun i _ => e i]
  generalize ns.count x = c
  have hc : x % 8 = 0 ∨ x % 8 = 1 ∨ x % 8 = 2 ∨ x % 8 = 3 ∨ x % 8 = 4 ∨ x % 8 = 5 ∨ x % 8 = 6 ∨ x % 8 = 7 := by omega
  rw [show List.range 8 = [0, 1, 2, 3, 4, 5, 6, 7] from rfl]
  rcases hc with h | h | h | h | h | h | h | h <;> rw [h] <;> simp
theorem piled_perm (ns : List Int) : (piled ns).Perm ns := List.perm_iff_count.mpr (flat_count ns)
def PailsAt (K : PySem.W.Frag) (M : Mem) (a l : Addr) (ps : List (Addr × Addr)) (ns : List Int) : Prop :=
  (M a = some (.ins (He.ga K "Pails") [("pails", .v (.ref l))]) ∧ M l = some (.om (.lst (ps.map fun p => .ref p.1))) ∧ Cls K (He.ga K "Pails") ∧ NoAttr K (He.ga K "Pails") "pails") ∧ ps.length = 8 ∧ (ps.map (·.2)).Nodup ∧ ∀ (i : Nat) (p : Addr × Addr), ps[i]? = some p → HeapAt K M p.1 p.2 (pail ns i)
theorem lk_pails (v : Fl) : List.lookup ("pails" : PySem.Str) [(("pails" : PySem.Str), v)] = some v := rfl
/-- steps of a deed -/
def stpP (w : W5) (ns : List Int) (x : Int) : Int := match w with
  | .put => if x ∈ ns then 1 + looks (pail ns (x % 8).toNat) x else 2 + ((pail ns (x % 8).toNat).length : Nat)
  | .take => 1 + ((pail ns (x % 8).toNat).length : Nat)
  | .has => 1 + looks (pail ns (x % 8).toNat) x
  | _ => 9 + (ns.length : Nat)
def OnlyP (M M' : Mem) (ps : List (Addr × Addr)) : Prop := ∀ b, (∀ p ∈ ps, b ≠ p.2) → M' b = M b
def pailF (K : PySem.W.Frag) (w : W5) : FS := fun ds M Q X => ∃ a l ps ns d, ds = [.ref a, d] ∧ PailsAt K M a l ps ns ∧ SetN ns ∧ d.da = true ∧ (isThing d = false → X (He.ga K "NoDeed") M) ∧
  ∀ x, d = .int x → 0 ≤ x → x ≤ 999999 → (w = .put ∧ x ∉ ns ∧ ns.length = 40 → X (He.ga K "TooMany") M) ∧ (¬ (w = .put ∧ x ∉ ns ∧ ns.length = 40) → ∀ M', OnlyP M M' ps → PailsAt K M' a l ps (aftS w ns x) → Q (.tup [.int (telS w ns x), .int (stpP w ns x)]) M')
theorem pailF_mono {K : PySem.W.Frag} {w : W5} : MonoF (pailF K w) := fun _ _ _ _ _ _ h hx ⟨a, l, ps, ns, d, e, c, c2, c3, q, q2⟩ => ⟨a, l, ps, ns, d, e, c, c2, c3, fun z => hx _ _ (q z), fun x e h0 h1 => ⟨fun z => hx _ _ ((q2 x e h0 h1).1 z), fun z M' o p => h _ _ ((q2 x e h0 h1).2 z M' o p)⟩⟩
/-- the i-th pair -/
def nth2 (ps : List (Addr × Addr)) (i : Nat) : Addr × Addr := (ps[i]?).getD (0, 0)
theorem nth2_get {ps : List (Addr × Addr)} {i : Nat} (h : i < ps.length) : ps[i]? = some (nth2 ps i) := by unfold nth2; rw [List.getElem?_eq_getElem h]; rfl
theorem refs_rng {ps : List (Addr × Addr)} (h8 : ps.length = 8) : (ps.map fun p => D.ref p.1) = (List.range 8).map fun i => D.ref (nth2 ps i).1 := by
  refine List.ext_getElem? fun i => ?_
  rw [List.getElem?_map, List.getElem?_map]
  by_cases h : i < 8
  · rw [nth2_get (by omega), List.getElem?_range h]
    rfl
  · rw [List.getElem?_eq_none (by omega), List.getElem?_eq_none (by rw [List.length_range]; omega)]
    rfl
def fs_Pails_all_things (K : PySem.W.Frag) : FS := fun ds M Q _ => ∃ a l ps ns, ds = [.ref a] ∧ PailsAt K M a l ps ns ∧ SetN ns ∧ Q (.lst ((piled ns).map .int)) M
theorem mo_Pails_all_things {K : PySem.W.Frag} : MonoF (fs_Pails_all_things K) := fun _ _ _ _ _ _ h _ ⟨a, l, ps, ns, e, c, c2, q⟩ => ⟨a, l, ps, ns, e, c, c2, h _ _ q⟩
/-- Pails.all_things -/
def lp1_Pails_all_things (K : PySem.W.Frag) : GS := gExt 1 (gDrf (gFld K "kept" (gV 2)))
def af1_Pails_all_things (K : PySem.W.Frag) : GS := gFrz 1 (gRet (gV 1))
def g_Pails_all_things (K : PySem.W.Frag) : GS := gSeq (gOwn 1 (gFl (gNil))) (gSeq (gForM (gFld K "pails" (gV 0)) (gtN 2) (lp1_Pails_all_things K)) (af1_Pails_all_things K))
theorem h_Pails_all_things {K : PySem.W.Frag} : ∀ ds M Q X, (fs_Pails_all_things K) ds M Q X → ds.length = ([.v] : List AK).length → g_Pails_all_things K { nx := fun _ M' => Q .non M', rt := Q } (entry 3 [.v] ds X) M := by
  rintro ds M Q X ⟨a, l, ps, ns, rfl, hh, hs, q⟩ -
  obtain ⟨⟨ma, ml, hc, hn⟩, h8, hd, hp⟩ := id hh
  wp_walk using g_Pails_all_things, ma, ml, hc, hn, lk_pails
  have hz : ∀ j, (((List.range j).map (pail ns)).flatten).length ≤ j * 40 := fun j => by
    induction j with
    | zero => exact Nat.le_refl _
    | succ j ih =>
      rw [List.range_succ, List.map_append, List.flatten_append, List.length_append]
      have := (hs.pail j).len
      show _ + (pail ns j ++ []).length ≤ _
      rw [List.append_nil]
      omega
  conv => arg 5; rw [refs_rng h8]
  refine loopM_rng (enc := fun i => D.ref (nth2 ps i).1) (fun j r M' => M' = M ∧ ∃ x2 : Sl, r = ⟨[.v (.ref a), .o (.lst ((((List.range j).map (pail ns)).flatten).map .int)), x2], X⟩) 8 ?_ ?_ ?_ _ _ ⟨rfl, _, rfl⟩
  · rintro j r M' ⟨rfl, x2, rfl⟩
    exact ml
  · rintro r M' ⟨rfl, x2, rfl⟩
    wp_walk using af1_Pails_all_things
    exact q
  · rintro j hj r M' ⟨rfl, x2, rfl⟩ N hN
    obtain ⟨mb, mk, hc2, hn2⟩ := hp j _ (nth2_get (by omega))
    wp_walk using lp1_Pails_all_things, mb, mk, hc2, hn2, lk_kept
    have h1 := hz j
    have h2 := (hs.pail j).len
    refine ⟨size_of (by omega), ?_⟩
    rw [← List.map_append]
    have e : ((List.range j).map (pail ns)).flatten ++ pail ns j = ((List.range (j + 1)).map (pail ns)).flatten := by
      rw [List.range_succ, List.map_append, List.flatten_append]
      show _ = _ ++ (pail ns j ++ [])
      rw [List.append_nil]
    rw [e]
    exact hN _ _ ⟨rfl, _, rfl⟩
def frmP (ns : List Int) : D := .tup ((List.range 8).map fun i => .tup ((pail ns i).map .int))
def fs_Pails_form_6 (K : PySem.W.Frag) : FS := fun ds M Q _ => ∃ a l ps ns, ds = [.ref a] ∧ PailsAt K M a l ps ns ∧ Q (frmP ns) M
theorem mo_Pails_form_6 {K : PySem.W.Frag} : MonoF (fs_Pails_form_6 K) := fun _ _ _ _ _ _ h _ ⟨a, l, ps, ns, e, c, q⟩ => ⟨a, l, ps, ns, e, c, h _ _ q⟩
/-- Pails.form -/
def g_Pails_form_6 (K : PySem.W.Frag) : GS := gRet (gCa gcTupleS (gCons (gFd (gLcM (gFld K "pails" (gV 0)) (gtN 1) (gYes) (gMeth "form" [(He.ga K "Heap", fs_Heap_form K)] (gV 1) gNil) [1])) gNil))
theorem h_Pails_form_6 {K : PySem.W.Frag} : ∀ ds M Q X, (fs_Pails_form_6 K) ds M Q X → ds.length = ([.v] : List AK).length → g_Pails_form_6 K { nx := fun _ M' => Q .non M', rt := Q } (entry 2 [.v] ds X) M := by
  rintro ds M Q X ⟨a, l, ps, ns, rfl, hh, q⟩ -
  obtain ⟨⟨ma, ml, hc, hn⟩, h8, hd, hp⟩ := id hh
  wp_walk using g_Pails_form_6, ma, ml, hc, hn, lk_pails
  rw [refs_rng h8] at ml ⊢
  refine lcM_mp (xs := List.range 8) (enc := fun i => D.ref (nth2 ps i).1) (f := fun i => .tup ((pail ns i).map .int)) ml (fun i hi Q' q' => ?_) (size_of (by simp)) ?_
  · have hi := List.mem_range.mp hi
    have hh := hp i _ (nth2_get (by omega))
    obtain ⟨mb, mk, hc2, hn2⟩ := id hh
    wp_walk using mb
    exact ⟨rfl, _, List.mem_cons_self .., _, _, _, rfl, hh, q'⟩
  · rw [List.nil_append]
    exact q
def fs_Pails_pail_of (K : PySem.W.Frag) : FS := fun ds M Q X => ∃ a l ps ns d, ds = [.ref a, d] ∧ PailsAt K M a l ps ns ∧ d.da = true ∧ (isThing d = false → X (He.ga K "NoDeed") M) ∧ ∀ x p, d = .int x → 0 ≤ x → x ≤ 999999 → ps[(x % 8).toNat]? = some p → Q (.ref p.1) M
theorem mo_Pails_pail_of {K : PySem.W.Frag} : MonoF (fs_Pails_pail_of K) := fun _ _ _ _ _ _ h hx ⟨a, l, ps, ns, d, e, c, c2, q, q2⟩ => ⟨a, l, ps, ns, d, e, c, c2, fun z => hx _ _ (q z), fun x p e h0 h1 h2 => h _ _ (q2 x p e h0 h1 h2)⟩
/-- Pails.pail_of -/
def g_Pails_pail_of (K : PySem.W.Frag) : GS := gSeq (gDrop (gCallP (fs_p_need_member K) (gCons (gV 1) gNil))) (gRet (g2 goIx (gDrf (gFld K "pails" (gV 0))) (g2 goMod (gV 1) (gC (.int 8)))))
theorem h_Pails_pail_of {K : PySem.W.Frag} : ∀ ds M Q X, (fs_Pails_pail_of K) ds M Q X → ds.length = ([.v, .v] : List AK).length → g_Pails_pail_of K { nx := fun _ M' => Q .non M', rt := Q } (entry 2 [.v, .v] ds X) M := by
  rintro ds M Q X ⟨a, l, ps, ns, d, rfl, hh, hda, q, q2⟩ -
  obtain ⟨⟨ma, ml, hc, hn⟩, h8, hd, hp⟩ := id hh
  wp_walk using g_Pails_pail_of
  refine ⟨d, rfl, hda, fun h => ?_, q⟩
  obtain ⟨x, rfl, x0, x1⟩ := isThing_int h
  have h0 := Int.emod_nonneg x (show (8 : Int) ≠ 0 by decide)
  have h1 := Int.emod_lt_of_pos x (show (0 : Int) < 8 by decide)
  obtain ⟨p, ep⟩ : ∃ p, ps[(x % 8).toNat]? = some p := ⟨_, List.getElem?_eq_getElem (by omega)⟩
  have ei : atI (ps.map fun p => D.ref p.1) (x % 8) = some (.ref p.1) := atI_nat h0 (by rw [List.getElem?_map, ep]; rfl)
  wp_walk using ma, ml, hc, hn, lk_pails, ei
  exact q2 x p rfl x0 x1 ep
theorem PailsAt.ne {M : Mem} {a l : Addr} {ps : List (Addr × Addr)} {ns : List Int} (h : PailsAt K M a l ps ns) {i : Nat} {p : Addr × Addr} (ep : ps[i]? = some p) : a ≠ p.2 ∧ l ≠ p.2 ∧ ∀ (j : Nat) (p' : Addr × Addr), ps[j]? = some p' → p'.1 ≠ p.2 ∧ (j ≠ i → p'.2 ≠ p.2) := by
  obtain ⟨⟨ma, ml, hc, hn⟩, h8, hd, hp⟩ := h
  obtain ⟨mb, mk, -, -⟩ := hp i p ep
  refine ⟨fun e => ?_, fun e => ?_, fun j p' ep' => ⟨fun e => ?_, fun hj e => hj ?_⟩⟩
  · rw [e, mk] at ma
    cases ma
  · rw [e, mk] at ml
    have e2 := OM.lst.inj (MO.om.inj (Option.some.inj ml))
    cases ps with
    | nil => cases h8
    | cons p0 ps0 =>
      generalize pail ns i = zs at e2
      cases zs with
      | nil => cases e2
      | cons z zs => cases (List.cons.inj e2).1
  · obtain ⟨mb', -, -, -⟩ := hp j p' ep'
    rw [e, mk] at mb'
    cases mb'
  · have hj : j < (ps.map (·.2)).length := by rw [List.length_map]; exact (List.getElem?_eq_some_iff.mp ep').1
    refine (List.getElem?_inj hj hd).mp ?_
    rw [List.getElem?_map, List.getElem?_map, ep, ep']
    exact congrArg some e
theorem PailsAt.put {M : Mem} {a l : Addr} {ps : List (Addr × Addr)} {ns : List Int} (h : PailsAt K M a l ps ns) (w : W5) {x : Int} {i : Nat} {p : Addr × Addr} (ep : ps[i]? = some p) (hx : x % 8 = (i : Int)) :
    PailsAt K (mup M p.2 (.om (.lst ((aftS w (pail ns i) x).map .int)))) a l ps (aftS w ns x) := by
  obtain ⟨n1, n2, n3⟩ := h.ne ep
  obtain ⟨⟨ma, ml, hc, hn⟩, h8, hd, hp⟩ := h
  refine ⟨⟨by rw [mup_ne n1]; exact ma, by rw [mup_ne n2]; exact ml, hc, hn⟩, h8, hd, fun j p' ep' => ?_⟩
  obtain ⟨mb, mk, hc2, hn2⟩ := hp j p' ep'
  refine ⟨by rw [mup_ne (n3 j p' ep').1]; exact mb, ?_, hc2, hn2⟩
  by_cases hj : j = i
  · subst hj
    rw [ep] at ep'
    cases ep'
    rw [mup_same, pail_aft, if_pos hx]
  · rw [mup_ne ((n3 j p' ep').2 hj), pail_aft, if_neg fun z => hj (by omega)]
    exact mk
theorem OnlyP.one {M : Mem} {ps : List (Addr × Addr)} {i : Nat} {p : Addr × Addr} {o : MO} (ep : ps[i]? = some p) : OnlyP M (mup M p.2 o) ps := fun b hb => mup_ne (hb p (List.mem_of_getElem? ep))
theorem idx8 {x : Int} : ∃ i : Nat, (x % 8).toNat = i ∧ x % 8 = (i : Int) ∧ i < 8 := ⟨(x % 8).toNat, rfl, by omega, by omega⟩
def fs_Pails_has_4 (K : PySem.W.Frag) : FS := pailF K .has
def fs_Pails_take_11 (K : PySem.W.Frag) : FS := pailF K .take
theorem mo_Pails_take_11 {K : PySem.W.Frag} : MonoF (fs_Pails_take_11 K) := pailF_mono
/-- Pails.take -/
def g_Pails_take_11 (K : PySem.W.Frag) : GS := gRet (gMeth "take" [(He.ga K "Heap", fs_Heap_take K)] (gMeth "pail_of" [(He.ga K "Pails", fs_Pails_pail_of K)] (gV 0) (gCons (gV 1) gNil)) (gCons (gV 1) gNil))
theorem h_Pails_take_11 {K : PySem.W.Frag} : ∀ ds M Q X, (fs_Pails_take_11 K) ds M Q X → ds.length = ([.v, .v] : List AK).length → g_Pails_take_11 K { nx := fun _ M' => Q .non M', rt := Q } (entry 2 [.v, .v] ds X) M := by
  rintro ds M Q X ⟨a, l, ps, ns, d, rfl, hh, hs, hda, q, q2⟩ -
  obtain ⟨⟨ma, ml, hc, hn⟩, h8, hd, hp⟩ := id hh
  wp_walk using g_Pails_take_11, ma
  refine ⟨rfl, _, List.mem_cons_self .., a, l, ps, ns, d, rfl, hh, hda, q, fun x p e x0 x1 ep => ?_⟩
  subst e
  obtain ⟨i, ei, hx, hi⟩ := idx8 (x := x)
  rw [ei] at ep
  have hph := hp i p ep
  obtain ⟨mb, mk, hc2, hn2⟩ := id hph
  have q3 := (q2 x rfl x0 x1).2 (fun z => by cases z.1)
  wp_walk using mb
  refine ⟨rfl, _, List.mem_cons_self .., p.1, p.2, pail ns i, .int x, rfl, hph, hs.pail i, rfl, fun h => (thing_not x0 x1 h).elim, fun y ey _ _ => ?_⟩
  cases ey
  unfold stpP at q3
  rw [ei] at q3
  refine ⟨fun h => ?_, fun h => ?_⟩
  · have h2 : x ∉ ns := fun z => h (mem_pail.mpr ⟨z, hx⟩)
    have q4 := q3 M (fun _ _ => rfl) (by rw [show aftS .take ns x = ns from filter_absent h2]; exact hh)
    rw [show telS .take ns x = 0 from if_neg h2] at q4
    rw [show looks (pail ns i) x = ((pail ns i).length : Nat) from if_neg h]
    exact q4
  · have h2 : x ∈ ns := (mem_pail.mp h).1
    have q4 := q3 _ (OnlyP.one ep) (hh.put .take ep hx)
    rw [show telS .take ns x = 1 from if_pos h2, show aftS .take (pail ns i) x = (pail ns i).eraseIdx ((pail ns i).idxOf x) from (erase_filter _ x (hs.pail i).nd h).symm] at q4
    have e2 : looks (pail ns i) x = ((pail ns i).idxOf x : Nat) + 1 := if_pos h
    rw [e2, show (1 + ((((pail ns i).idxOf x : Nat) : Int) + 1) + (((pail ns i).length : Nat) - 1 : Int) - ((pail ns i).idxOf x : Nat)) = 1 + ((pail ns i).length : Nat) by omega]
    exact q4
def fs_Pails_put_6 (K : PySem.W.Frag) : FS := pailF K .put
theorem mo_Pails_put_6 {K : PySem.W.Frag} : MonoF (fs_Pails_put_6 K) := pailF_mono
/-- Pails.put -/
def af1_Pails_put_6 (K : PySem.W.Frag) : GS := gRet (gMeth "put" [(He.ga K "Heap", fs_Heap_put K)] (gV 2) (gCons (gV 1) gNil))
def g_Pails_put_6 (K : PySem.W.Frag) : GS := gSeq (gSet 2 (gMeth "pail_of" [(He.ga K "Pails", fs_Pails_pail_of K)] (gV 0) (gCons (gV 1) gNil))) (gSeq (gIfS (gB (g2 (goIn true) (gV 1) (gDrf (gFld K "kept" (gV 2))))) (gDrop (gCallP (fs_p_need_place K) (gCons (gMeth "all_things" [(He.ga K "Pails", fs_Pails_all_things K)] (gV 0) gNil) gNil))) (gNext)) (af1_Pails_put_6 K))
theorem h_Pails_put_6 {K : PySem.W.Frag} : ∀ ds M Q X, (fs_Pails_put_6 K) ds M Q X → ds.length = ([.v, .v] : List AK).length → g_Pails_put_6 K { nx := fun _ M' => Q .non M', rt := Q } (entry 3 [.v, .v] ds X) M := by
  rintro ds M Q X ⟨a, l, ps, ns, d, rfl, hh, hs, hda, q, q2⟩ -
  obtain ⟨⟨ma, ml, hc, hn⟩, h8, hd, hp⟩ := id hh
  wp_walk using g_Pails_put_6, ma
  refine ⟨rfl, _, List.mem_cons_self .., a, l, ps, ns, d, rfl, hh, hda, q, fun x p e x0 x1 ep => ?_⟩
  subst e
  obtain ⟨i, ei, hx, hi⟩ := idx8 (x := x)
  rw [ei] at ep
  have hph := hp i p ep
  obtain ⟨mb, mk, hc2, hn2⟩ := id hph
  obtain ⟨q4, q3⟩ := q2 x rfl x0 x1
  unfold stpP at q3
  rw [ei] at q3
  have hpl := (piled_perm ns).length_eq
  wp_walk using mb, mk, hc2, hn2, lk_kept, goIn_lstI
  by_cases h : x ∈ pail ns i
  · have h2 : x ∈ ns := (mem_pail.mp h).1
    have q5 := q3 (fun z => z.2.1 h2) M (fun _ _ => rfl) (by rw [show aftS .put ns x = ns from if_pos h2]; exact hh)
    rw [show telS .put ns x = 0 from if_pos h2, if_pos h2] at q5
    wp_walk using h, af1_Pails_put_6, mb
    refine ⟨rfl, _, List.mem_cons_self .., p.1, p.2, pail ns i, .int x, rfl, hph, hs.pail i, rfl, fun h => (thing_not x0 x1 h).elim, fun y ey _ _ => ?_⟩
    cases ey
    exact ⟨fun _ => q5, fun z => absurd h z, fun z => absurd h z⟩
  · have h2 : x ∉ ns := fun z => h (mem_pail.mpr ⟨z, hx⟩)
    wp_walk using h, ma
    refine ⟨rfl, _, List.mem_cons_self .., a, l, ps, ns, rfl, hh, hs, ?_⟩
    refine ⟨_, _, rfl, rfl, fun z => ?_, fun z => q4 ⟨rfl, h2, by simpa [hpl] using z⟩⟩
    rw [List.length_map, hpl] at z
    have hl := hs.len
    have hz : (pail ns i).length ≤ ns.length := List.length_filter_le ..
    have q5 := q3 (fun y => z y.2.2) _ (OnlyP.one ep) (hh.put .put ep hx)
    rw [show telS .put ns x = 1 from if_neg h2, if_neg h2, show aftS .put (pail ns i) x = pail ns i ++ [x] from if_neg h] at q5
    wp_walk using af1_Pails_put_6, mb
    refine ⟨rfl, _, List.mem_cons_self .., p.1, p.2, pail ns i, .int x, rfl, hph, hs.pail i, rfl, fun h => (thing_not x0 x1 h).elim, fun y ey _ _ => ?_⟩
    cases ey
    refine ⟨fun y => absurd y h, fun _ y => by omega, fun _ _ => ?_⟩
    rw [show looks (pail ns i) x = ((pail ns i).length : Nat) from if_neg h, show (1 + (((pail ns i).length : Nat) : Int) + 1) = 2 + ((pail ns i).length : Nat) by omega]
    exact q5
def fs_Pails_rank (K : PySem.W.Frag) : FS := pailF K .rank
def fs_Pails_next_from (K : PySem.W.Frag) : FS := pailF K .next
def fs_Pails___init__ (K : PySem.W.Frag) : FS := fun ds M Q X => ∃ a d, ds = [.ref a, d] ∧ M a = some (.ins (He.ga K "Pails") []) ∧ Cls K (He.ga K "Pails") ∧ NoAttr K (He.ga K "Pails") "pails" ∧ d.da = true ∧ (isSetB d = false → X (He.ga K "NoThings") M) ∧
  ∀ ns M' l ps, d = .tup (ns.map .int) → SetN ns → (∀ b, M b ≠ none → b ≠ a → M' b = M b) → PailsAt K M' a l ps ns → M l = none ∧ (∀ p ∈ ps, M p.1 = none ∧ M p.2 = none) → Q .non M'
theorem mo_Pails___init__ {K : PySem.W.Frag} : MonoF (fs_Pails___init__ K) := fun _ _ _ _ _ _ h hx ⟨a, d, e, c, c2, c3, c4, q, q2⟩ => ⟨a, d, e, c, c2, c3, c4, fun z => hx _ _ (q z), fun ns M' l ps z1 z2 z3 z4 z5 => h _ _ (q2 ns M' l ps z1 z2 z3 z4 z5)⟩
def Fk_Pails (K : PySem.W.Frag) : Prop := Cls K (He.ga K "Pails") ∧ NoAttr K (He.ga K "Pails") "pails"
/-- Pails.__init__ -/
def lp1_Pails___init__ (K : PySem.W.Frag) : GS := gMApp (gFld K "pails" (gV 0)) (gMake (He.ga K "Heap") (Fk_Heap K) (fs_Heap___init__ K) (gCons (gCa gcTupleS (gCons (gFd (gLc (itsD (fun ds => ds) (gV 1)) (gtN 3) (gB (g2 goEqA (g2 goMod (gV 3) (gC (.int 8))) (gV 2))) (gV 3) [3])) gNil)) gNil))
def g_Pails___init__ (K : PySem.W.Frag) : GS := gSeq (gDrop (gCallP (fs_p_need_set K) (gCons (gV 1) gNil))) (gSeq (gPutFM K "pails" (gV 0) (gFl (gNil))) (gFor (giR1 (gCons (gC (.int 8)) gNil)) (gtN 2) (lp1_Pails___init__ K)))
theorem h_Pails___init__ {K : PySem.W.Frag} : ∀ ds M Q X, (fs_Pails___init__ K) ds M Q X → ds.length = ([.v, .v] : List AK).length → g_Pails___init__ K { nx := fun _ M' => Q .non M', rt := Q } (entry 4 [.v, .v] ds X) M := by
  rintro ds M Q X ⟨a, d, rfl, ma, hc, hn, hd, q, q2⟩ -
  wp_walk using g_Pails___init__
  refine ⟨d, rfl, hd, fun h => ?_, q⟩
  obtain ⟨ns, rfl, hs⟩ := isSetB_iff.mp h
  wp_walk
  intro l nl
  have nal : a ≠ l := fun e => by rw [e, nl] at ma; cases ma
  rw [mup_ne nal, ma]
  refine ⟨⟨hc, hn⟩, by simp, ?_⟩
  have m0a : mup (mup M l (.om (.lst []))) a (.ins (He.ga K "Pails") (putFl "pails" (.v (.ref l)) [])) a = some (.ins (He.ga K "Pails") [("pails", .v (.ref l))]) := mup_same
  have m0l : mup (mup M l (.om (.lst []))) a (.ins (He.ga K "Pails") (putFl "pails" (.v (.ref l)) [])) l = some (.om (.lst [])) := by rw [mup_ne (Ne.symm nal), mup_same]
  have m0f : ∀ b, M b ≠ none → b ≠ a → mup (mup M l (.om (.lst []))) a (.ins (He.ga K "Pails") (putFl "pails" (.v (.ref l)) [])) b = M b := fun b hb hba => by rw [mup_ne hba, mup_ne fun e => hb (by rw [e]; exact nl)]
  generalize mup (mup M l (.om (.lst []))) a (.ins (He.ga K "Pails") (putFl "pails" (.v (.ref l)) [])) = M0 at m0a m0l m0f ⊢
  refine loop_rng (fun j r M' => ∃ (ps : List (Addr × Addr)) (x2 : Sl), ps.length = j ∧ (ps.map (·.2)).Nodup ∧ M' a = some (.ins (He.ga K "Pails") [("pails", .v (.ref l))]) ∧ M' l = some (.om (.lst (ps.map fun p => .ref p.1))) ∧ (∀ (i : Nat) (p : Addr × Addr), ps[i]? = some p → HeapAt K M' p.1 p.2 (pail ns i)) ∧
    (∀ b, M b ≠ none → b ≠ a → M' b = M b) ∧ (∀ p ∈ ps, M p.1 = none ∧ M p.2 = none) ∧ r = ⟨[.v (.ref a), .v (.tup (ns.map .int)), x2, .n], X⟩) 8 ?_ ?_ _ _ ⟨[], _, rfl, List.nodup_nil, m0a, m0l, fun i p h => (by cases h), m0f, fun p h => (by cases h), rfl⟩
  · rintro r M' ⟨ps, x2, h8, hdd, ma', ml', hp, hf, hfr, rfl⟩
    exact q2 ns M' l ps rfl hs hf ⟨⟨ma', ml', hc, hn⟩, h8, hdd, hp⟩ ⟨nl, hfr⟩
  · rintro j hj r M' ⟨ps, x2, h8, hdd, ma', ml', hp, hf, hfr, rfl⟩ N hN
    have hl := hs.len
    wp_walk using lp1_Pails___init__, ma', ml', hc, hn, lk_pails
    refine lc_fp (enc := D.int) (f := D.int) (p := fun n => decide (n % 8 = (j : Int))) (fun n hn Q' P' y1 y2 => ?_) (size_of (by rw [List.length_nil]; omega)) ?_
    · wp_walk
      by_cases h : n % 8 = (j : Int)
      · rw [if_pos h]
        exact y1 (decide_eq_true h)
      · rw [if_neg h]
        exact y2 (decide_eq_false h)
    rw [List.nil_append]
    intro hF y ny
    have hpj := hs.pail j
    have nya : y ≠ a := fun e => by rw [e, ma'] at ny; cases ny
    have nyl : y ≠ l := fun e => by rw [e, ml'] at ny; cases ny
    refine ⟨y, .tup ((pail ns j).map .int), rfl, mup_same, hF.1, hF.2, by rw [D.da_tup]; exact D.da_ints _, fun h => ?_, fun ns' k e hs' nk => ?_⟩
    · rw [isSetB_iff.mpr ⟨_, rfl, hpj⟩] at h
      cases h
    have e' := ints_inj e
    subst e'
    have nyk : y ≠ k := fun e => by rw [← e, mup_same] at nk; cases nk
    have nk' : M' k = none := by rw [mup_ne (Ne.symm nyk)] at nk; exact nk
    have nka : k ≠ a := fun e => by rw [e, ma'] at nk'; cases nk'
    have nkl : k ≠ l := fun e => by rw [e, ml'] at nk'; cases nk'
    refine ⟨rfl, ?_⟩
    have el : mup (mup (mup M' y (.ins (He.ga K "Heap") [])) k (.om (.lst ((pail ns j).map .int)))) y (.ins (He.ga K "Heap") [("kept", .v (.ref k))]) l = some (.om (.lst (ps.map fun p => .ref p.1))) := by
      rw [mup_ne (Ne.symm nyl), mup_ne (Ne.symm nkl), mup_ne (Ne.symm nyl)]
      exact ml'
    rw [el]
    refine ⟨size_lt (by rw [List.length_map]; omega), ?_⟩
    have old : ∀ b, b ≠ y → b ≠ k → b ≠ l → mup (mup (mup (mup M' y (.ins (He.ga K "Heap") [])) k (.om (.lst ((pail ns j).map .int)))) y (.ins (He.ga K "Heap") [("kept", .v (.ref k))])) l (.om (.lst ((ps.map fun p => D.ref p.1) ++ [.ref y]))) b = M' b := fun b h1 h2 h3 => by
      rw [mup_ne h3, mup_ne h1, mup_ne h2, mup_ne h1]
    have newl : mup (mup (mup (mup M' y (.ins (He.ga K "Heap") [])) k (.om (.lst ((pail ns j).map .int)))) y (.ins (He.ga K "Heap") [("kept", .v (.ref k))])) l (.om (.lst ((ps.map fun p => D.ref p.1) ++ [.ref y]))) l = some (.om (.lst ((ps ++ [(y, k)]).map fun p => .ref p.1))) := by
      rw [mup_same, List.map_append]
      rfl
    have newy : HeapAt K (mup (mup (mup (mup M' y (.ins (He.ga K "Heap") [])) k (.om (.lst ((pail ns j).map .int)))) y (.ins (He.ga K "Heap") [("kept", .v (.ref k))])) l (.om (.lst ((ps.map fun p => D.ref p.1) ++ [.ref y])))) y k (pail ns j) := by
      refine ⟨by rw [mup_ne nyl, mup_same], by rw [mup_ne nkl, mup_ne (Ne.symm nyk), mup_same], hF.1, hF.2⟩
    generalize mup (mup (mup (mup M' y (.ins (He.ga K "Heap") [])) k (.om (.lst ((pail ns j).map .int)))) y (.ins (He.ga K "Heap") [("kept", .v (.ref k))])) l (.om (.lst ((ps.map fun p => D.ref p.1) ++ [.ref y]))) = M2 at old newl newy ⊢
    refine hN _ _ ⟨ps ++ [(y, k)], _, by rw [List.length_append, h8]; rfl, ?_, ?_, newl, fun i p ep => ?_, fun b hb hba => ?_, fun p hp => ?_, rfl⟩
    · rw [List.map_append]
      refine List.nodup_append.mpr ⟨hdd, by simp, fun z hz u hu => ?_⟩
      rw [List.mem_singleton.mp hu]
      obtain ⟨p, hpm, rfl⟩ := List.mem_map.mp hz
      obtain ⟨i, hi, ep⟩ := List.mem_iff_getElem.mp hpm
      obtain ⟨-, mk, -, -⟩ := hp i p (by rw [List.getElem?_eq_getElem hi, ep])
      intro e
      have e : p.2 = k := e
      rw [e, nk'] at mk
      cases mk
    · rw [old a (Ne.symm nya) (Ne.symm nka) nal]
      exact ma'
    · by_cases hi : i < ps.length
      · rw [List.getElem?_append_left hi] at ep
        obtain ⟨mb, mk, c1, c2⟩ := hp i p ep
        refine ⟨?_, ?_, c1, c2⟩
        · rw [old p.1 (fun e => by rw [e, ny] at mb; cases mb) (fun e => by rw [e, nk'] at mb; cases mb) (fun e => by rw [e, ml'] at mb; cases mb)]
          exact mb
        · have npl : p.2 ≠ l := fun e => by
            rw [e, ml'] at mk
            have e2 := OM.lst.inj (MO.om.inj (Option.some.inj mk))
            cases ps with
            | nil => cases hi
            | cons p0 ps0 =>
              generalize pail ns i = zs at e2
              cases zs with
              | nil => cases e2
              | cons z zs => cases (List.cons.inj e2).1
          rw [old p.2 (fun e => by rw [e, ny] at mk; cases mk) (fun e => by rw [e, nk'] at mk; cases mk) npl]
          exact mk
      · rw [List.getElem?_append_right (by omega)] at ep
        have e0 : i - ps.length = 0 := by
          have := (List.getElem?_eq_some_iff.mp ep).1
          rw [List.length_singleton] at this
          omega
        rw [e0] at ep
        cases ep
        rw [show i = j by omega]
        exact newy
    · have e1 := hf b hb hba
      have hb2 : M' b ≠ none := by rw [e1]; exact hb
      have hbl : b ≠ l := fun e => hb (by rw [e]; exact nl)
      rw [old b (fun e => hb2 (by rw [e]; exact ny)) (fun e => hb2 (by rw [e]; exact nk')) hbl]
      exact e1
    · rcases List.mem_append.mp hp with hp | hp
      · exact hfr p hp
      · rw [List.mem_singleton.mp hp]
        exact ⟨Classical.byContradiction fun z => z (by rw [← hf y z nya]; exact ny), Classical.byContradiction fun z => z (by rw [← hf k z nka]; exact nk')⟩
end
local macro_rules | `(tactic| wp_walk) => `(tactic| simp only [RB15, DL.Fr.mute, frz, entry, aSls, aSl, DL.Fr.set, OM.d, wipeF, wipeS, keyD, List.length_cons, List.length_nil, List.cons_append, List.nil_append, List.append_nil, List.replicate_succ, List.replicate_zero, List.getElem?_cons_zero, List.getElem?_cons_succ, List.getElem?_nil, List.set_cons_zero, List.set_cons_succ, Nat.reduceAdd, Nat.reduceSub, if_true, if_false, ite_true, ite_false, reduceIte, Bool.false_eq_true, Bool.not_true, Bool.not_false, List.all_cons, List.all_nil, Bool.and_true, true_and, and_true, List.map_cons, List.map_nil, ixT_ints, intsOf_map, Int.reduceToNat, Option.some.injEq, exists_eq_left', gTru_k, gFlist_k, gsSl_k, slK_tup, itsD_k, giZip_k, giR1_k, ran1K_nat, giR2_k, goLtA_tup, ok_non, eqv_bl, gcMin_ints, gcMinT_ints, gcMax_ints, gcMaxT_ints, intsOf_mapf, blsOf_mapf, gcMin_f, gcMax_f, gcMin_2, gcMax_2, gcSum_ints, gcSum_f, gcBls_f, all_mapid, any_mapid, at_0, at_1, at_2, at_3, at_last, noOwn_nil, noOwn_1, noOwn_2, nof_n, nof_v, nof_b, nof_s, zipD_map, enumD_map, gcAll, gcAny, goMod, goFdiv, decide_eq_true_eq, Bool.not_eq_true', decide_eq_false_iff_not, ite_not, Bool.and_eq_true, not_false_eq_true, Bool.not_eq_true, List.map_append, Int.zero_add, List.any_cons, List.any_nil, Bool.true_and, Bool.or_false, Bool.xor_false, Bool.false_xor, Bool.true_xor, Bool.not_not, forall_const, Int.toNat_natCast, List.length_map, List.length_append, and_self, ne_eq, List.map_eq_nil_iff, not_true_eq_false, eq_self, goMulI, goSub, goPow, goLe, goGt, goGe, guNeg, gcAbs, blK_bl, ite_bf, reduceCtorEq, Int.reducePow, Int.reduceLT, Int.reduceLE, Int.reduceNeg, ins2K_2, insK_int, lenSetK_lst, lenSetK_tup, minDK_lst, sortK_lst, sortK_tup, getK, dgetK, gLamT, lamS, lam1, entryL, kvD, goEqE_lst, goEqE_tup, List.isEmpty_cons, List.isEmpty_nil, gcReprA_1, gcStrA_1, goEqI_x, goAddB_ii, goAddB_bi, goAddB_ib, goSubB_ii, goSubB_bi, goSubB_ib, goMulB_ii, goMulB_bi, goMulB_ib, guNegB_i, guNegB_b, goMulS_x, gcIntS_1, giZipX_k, zipXK_ll, zipXK_tt, zipXK_tl, zipXK_lt, goInT_tup])
local macro_rules | `(tactic| wp_walk using $ts,*) => `(tactic| simp only [$[$ts:term],*, RB15, DL.Fr.mute, frz, entry, aSls, aSl, DL.Fr.set, OM.d, wipeF, wipeS, keyD, List.length_cons, List.length_nil, List.cons_append, List.nil_append, List.append_nil, List.replicate_succ, List.replicate_zero, List.getElem?_cons_zero, List.getElem?_cons_succ, List.getElem?_nil, List.set_cons_zero, List.set_cons_succ, Nat.reduceAdd, Nat.reduceSub, if_true, if_false, ite_true, ite_false, reduceIte, Bool.false_eq_true, Bool.not_true, Bool.not_false, List.all_cons, List.all_nil, Bool.and_true, true_and, and_true, List.map_cons, List.map_nil, ixT_ints, intsOf_map, Int.reduceToNat, Option.some.injEq, exists_eq_left', gTru_k, gFlist_k, gsSl_k, slK_tup, itsD_k, giZip_k, giR1_k, ran1K_nat, giR2_k, goLtA_tup, ok_non, eqv_bl, gcMin_ints, gcMinT_ints, gcMax_ints, gcMaxT_ints, intsOf_mapf, blsOf_mapf, gcMin_f, gcMax_f, gcMin_2, gcMax_2, gcSum_ints, gcSum_f, gcBls_f, all_mapid, any_mapid, at_0, at_1, at_2, at_3, at_last, noOwn_nil, noOwn_1, noOwn_2, nof_n, nof_v, nof_b, nof_s, zipD_map, enumD_map, gcAll, gcAny, goMod, goFdiv, decide_eq_true_eq, Bool.not_eq_true', decide_eq_false_iff_not, ite_not, Bool.and_eq_true, not_false_eq_true, Bool.not_eq_true, List.map_append, Int.zero_add, List.any_cons, List.any_nil, Bool.true_and, Bool.or_false, Bool.xor_false, Bool.false_xor, Bool.true_xor, Bool.not_not, forall_const, Int.toNat_natCast, List.length_map, List.length_append, and_self, ne_eq, List.map_eq_nil_iff, not_true_eq_false, eq_self, goMulI, goSub, goPow, goLe, goGt, goGe, guNeg, gcAbs, blK_bl, ite_bf, reduceCtorEq, Int.reducePow, Int.reduceLT, Int.reduceLE, Int.reduceNeg, ins2K_2, insK_int, lenSetK_lst, lenSetK_tup, minDK_lst, sortK_lst, sortK_tup, getK, dgetK, gLamT, lamS, lam1, entryL, kvD, goEqE_lst, goEqE_tup, List.isEmpty_cons, List.isEmpty_nil, gcReprA_1, gcStrA_1, goEqI_x, goAddB_ii, goAddB_bi, goAddB_ib, goSubB_ii, goSubB_bi, goSubB_ib, goMulB_ii, goMulB_bi, goMulB_ib, guNegB_i, guNegB_b, goMulS_x, gcIntS_1, giZipX_k, zipXK_ll, zipXK_tt, zipXK_tl, zipXK_lt, goInT_tup])
section
variable {K : PySem.W.Frag}
set_option maxHeartbeats 1000000
inductive Tt where
  | nil
  | nd (x : Int) (l r : Tt)
def Tt.d : Tt → D
  | .nil => .tup []
  | .nd x l r => .tup [.int x, l.d, r.d]
def Tt.size : Tt → Nat
  | .nil => 0
  | .nd _ l r => l.size + r.size + 1
def Tt.mem (y : Int) : Tt → Prop
  | .nil => False
  | .nd x l r => y = x ∨ l.mem y ∨ r.mem y
def turnI (x : Int) : Int := 0 - (x * 48271 + 12345) % 65537
def upB (a b : Int) : Bool := decide (turnI a < turnI b) || (decide (turnI a = turnI b) && decide (a < b))
def partT : Tt → Int → Tt × Tt
  | .nil, _ => (.nil, .nil)
  | .nd x l r, y => if y < x then ((partT l y).1, .nd x (partT l y).2 r) else (.nd x l (partT r y).1, (partT r y).2)
def withT : Tt → Int → Tt
  | .nil, y => .nd y .nil .nil
  | .nd x l r, y => if upB y x then .nd y (partT (.nd x l r) y).1 (partT (.nd x l r) y).2 else if y < x then .nd x (withT l y) r else .nd x l (withT r y)
def joinT : Tt → Tt → Tt
  | .nil, t => t
  | t, .nil => t
  | .nd x l r, .nd y a b => if upB x y then .nd x l (joinT r (.nd y a b)) else .nd y (joinT (.nd x l r) a) b
termination_by s t => s.size + t.size
decreasing_by
  all_goals simp only [Tt.size]; omega
def withoutT : Tt → Int → Tt
  | .nil, _ => .nil
  | .nd x l r, y => if x = y then joinT l r else if y < x then .nd x (withoutT l y) r else .nd x l (withoutT r y)
/-- things of the program -/
def Tt.ok : Tt → Prop
  | .nil => True
  | .nd x l r => (0 ≤ x ∧ x ≤ 999999) ∧ l.ok ∧ r.ok
def fs_p_turn_of (K : PySem.W.Frag) : FS := fun ds M Q _ => ∃ x : Int, ds = [.int x] ∧ 0 ≤ x ∧ x ≤ 999999 ∧ Q (.tup [.int (turnI x), .int x]) M
theorem mo_p_turn_of {K : PySem.W.Frag} : MonoF (fs_p_turn_of K) := fun _ _ _ _ _ _ h _ ⟨x, e, c, c2, q⟩ => ⟨x, e, c, c2, h _ _ q⟩
/-- turn_of -/
def g_p_turn_of (K : PySem.W.Frag) : GS := gRet (gTup (gCons (g2 goSub (gC (.int 0)) (g2 goMod (g2 goAdd (g2 goMulI (gV 0) (gC (.int 48271))) (gC (.int 12345))) (gC (.int 65537)))) (gCons (gV 0) gNil)))
theorem h_p_turn_of {K : PySem.W.Frag} : ∀ ds M Q X, (fs_p_turn_of K) ds M Q X → ds.length = ([.v] : List AK).length → g_p_turn_of K { nx := fun _ M' => Q .non M', rt := Q } (entry 1 [.v] ds X) M := by
  rintro ds M Q X ⟨x, rfl, h0, h1, q⟩ -
  wp_walk using g_p_turn_of
  exact ⟨.inl ⟨by omega, by omega⟩, q⟩
def fs_p_is_upper (K : PySem.W.Frag) : FS := fun ds M Q _ => ∃ x y : Int, ds = [.int x, .int y] ∧ (0 ≤ x ∧ x ≤ 999999) ∧ (0 ≤ y ∧ y ≤ 999999) ∧ Q (.bl (upB x y)) M
theorem mo_p_is_upper {K : PySem.W.Frag} : MonoF (fs_p_is_upper K) := fun _ _ _ _ _ _ h _ ⟨x, y, e, c, c2, q⟩ => ⟨x, y, e, c, c2, h _ _ q⟩
/-- is_upper -/
def g_p_is_upper (K : PySem.W.Frag) : GS := gRet (g2 goLtA (gCallP (fs_p_turn_of K) (gCons (gV 0) gNil)) (gCallP (fs_p_turn_of K) (gCons (gV 1) gNil)))
theorem h_p_is_upper {K : PySem.W.Frag} : ∀ ds M Q X, (fs_p_is_upper K) ds M Q X → ds.length = ([.v, .v] : List AK).length → g_p_is_upper K { nx := fun _ M' => Q .non M', rt := Q } (entry 2 [.v, .v] ds X) M := by
  rintro ds M Q X ⟨x, y, rfl, hx, hy, q⟩ -
  wp_walk using g_p_is_upper
  refine ⟨x, rfl, hx.1, hx.2, ?_⟩
  wp_walk
  refine ⟨y, rfl, hy.1, hy.2, ?_⟩
  have e : HT.lexLt [turnI x, x] [turnI y, y] = upB x y := by
    rw [HT.lexLt_cons, HT.lexLt_cons]
    unfold upB
    by_cases h : turnI x = turnI y
    · rw [if_pos h, h]
      by_cases h2 : x = y
      · subst h2
        simp [HT.lexLt]
      · rw [if_neg h2]
        simp
    · rw [if_neg h]
      simp [h]
  show goLtA (.tup ([turnI x, x].map .int)) (.tup ([turnI y, y].map .int)) M Q
  rw [goLtA_tup, e]
  exact q
def fsr_p_parted (K : PySem.W.Frag) (n : Nat) : FS := fun ds M Q _ => ∃ (t : Tt) (y : Int), ds = [t.d, .int y] ∧ t.size < n ∧ Q (.tup [(partT t y).1.d, (partT t y).2.d]) M
theorem mor_p_parted {K : PySem.W.Frag} : ∀ n, MonoF (fsr_p_parted K n) := fun _ _ _ _ _ _ _ h _ ⟨t, y, e, c, q⟩ => ⟨t, y, e, c, h _ _ q⟩
theorem no_p_parted {K : PySem.W.Frag} : ∀ ds M Q X, fsr_p_parted K 0 ds M Q X → False := fun _ _ _ _ ⟨_, _, _, h, _⟩ => absurd h (Nat.not_lt_zero _)
/-- parted -/
def cu1_p_parted (K : PySem.W.Frag) (k : Nat) : GS := gRet (gTup (gCons (gV 5) (gCons (gTup (gCons (gV 2) (gCons (gV 6) (gCons (gV 4) gNil)))) gNil)))
def cu2_p_parted (K : PySem.W.Frag) (k : Nat) : GS := gRet (gTup (gCons (gTup (gCons (gV 2) (gCons (gV 3) (gCons (gV 5) gNil)))) (gCons (gV 6) gNil)))
def af1_p_parted (K : PySem.W.Frag) (k : Nat) : GS := gSeq (gAsg (gCallP (fsr_p_parted K k) (gCons (gV 4) (gCons (gV 1) gNil))) (gtTup (gtCons (gtN 5) (gtCons (gtN 6) gtNil)) 2)) (cu2_p_parted K k)
def af2_p_parted (K : PySem.W.Frag) (k : Nat) : GS := gSeq (gAsg (gV 0) (gtTup (gtCons (gtN 2) (gtCons (gtN 3) (gtCons (gtN 4) gtNil))) 3)) (gSeq (gIfS (gB (g2 goLtA (gV 1) (gV 2))) (gSeq (gAsg (gCallP (fsr_p_parted K k) (gCons (gV 3) (gCons (gV 1) gNil))) (gtTup (gtCons (gtN 5) (gtCons (gtN 6) gtNil)) 2)) (cu1_p_parted K k)) (gNext)) (af1_p_parted K k))
def g_p_parted (K : PySem.W.Frag) (k : Nat) : GS := gSeq (gIfS (gB (g2 (goEqE false) (gV 0) (gTup (gNil)))) (gRet (gTup (gCons (gTup (gNil)) (gCons (gTup (gNil)) gNil)))) (gNext)) (af2_p_parted K k)
theorem h_p_parted {K : PySem.W.Frag} : ∀ k ds M Q X, fsr_p_parted K (k + 1) ds M Q X → ds.length = ([.v, .v] : List AK).length → g_p_parted K k { nx := fun _ M' => Q .non M', rt := Q } (entry 7 [.v, .v] ds X) M := by
  rintro n ds M Q X ⟨t, y, rfl, hn, q⟩ -
  cases t with
  | nil =>
    wp_walk using g_p_parted, Tt.d
    exact q
  | nd x l r =>
    unfold partT at q
    wp_walk using g_p_parted, Tt.d, af2_p_parted
    simp only [Tt.size] at hn
    by_cases h : y < x
    · rw [if_pos h] at q ⊢
      refine ⟨l, y, rfl, by omega, ?_⟩
      wp_walk using cu1_p_parted
      exact q
    · rw [if_neg h] at q ⊢
      wp_walk using af1_p_parted
      refine ⟨r, y, rfl, by omega, ?_⟩
      wp_walk using cu2_p_parted
      exact q
def fs_p_parted (K : PySem.W.Frag) : FS := fsr_p_parted K 45
theorem parted_of {M : Mem} {t : Tt} {y : Int} {Q : D → Mem → Prop} {X : Addr → Mem → Prop} (h : t.size ≤ 44) (q : Q (.tup [(partT t y).1.d, (partT t y).2.d]) M) : fs_p_parted K [t.d, .int y] M Q X := ⟨t, y, rfl, by omega, q⟩
def fsr_p_with_thing (K : PySem.W.Frag) (n : Nat) : FS := fun ds M Q _ => ∃ (t : Tt) (y : Int), ds = [t.d, .int y] ∧ t.size < n ∧ t.size ≤ 44 ∧ t.ok ∧ (0 ≤ y ∧ y ≤ 999999) ∧ Q (withT t y).d M
theorem mor_p_with_thing {K : PySem.W.Frag} : ∀ n, MonoF (fsr_p_with_thing K n) := fun _ _ _ _ _ _ _ h _ ⟨t, y, e, c, c2, c3, c4, q⟩ => ⟨t, y, e, c, c2, c3, c4, h _ _ q⟩
theorem no_p_with_thing {K : PySem.W.Frag} : ∀ ds M Q X, fsr_p_with_thing K 0 ds M Q X → False := fun _ _ _ _ ⟨_, _, _, h, _⟩ => absurd h (Nat.not_lt_zero _)
/-- with_thing -/
def af1_p_with_thing (K : PySem.W.Frag) (k : Nat) : GS := gRet (gTup (gCons (g2 goIx (gV 0) (gC (.int 0))) (gCons (g2 goIx (gV 0) (gC (.int 1))) (gCons (gCallP (fsr_p_with_thing K k) (gCons (g2 goIx (gV 0) (gC (.int 2))) (gCons (gV 1) gNil))) gNil))))
def af2_p_with_thing (K : PySem.W.Frag) (k : Nat) : GS := gSeq (gIfS (gB (g2 goLtA (gV 1) (g2 goIx (gV 0) (gC (.int 0))))) (gRet (gTup (gCons (g2 goIx (gV 0) (gC (.int 0))) (gCons (gCallP (fsr_p_with_thing K k) (gCons (g2 goIx (gV 0) (gC (.int 1))) (gCons (gV 1) gNil))) (gCons (g2 goIx (gV 0) (gC (.int 2))) gNil))))) (gNext)) (af1_p_with_thing K k)
def g_p_with_thing (K : PySem.W.Frag) (k : Nat) : GS := gSeq (gIfS (gOr (gB (g2 (goEqE false) (gV 0) (gTup (gNil)))) (gTru (gCallP (fs_p_is_upper K) (gCons (gV 1) (gCons (g2 goIx (gV 0) (gC (.int 0))) gNil))))) (gRet (g2 goAdd (gTup (gCons (gV 1) gNil)) (gCallP (fs_p_parted K) (gCons (gV 0) (gCons (gV 1) gNil))))) (gNext)) (af2_p_with_thing K k)
theorem h_p_with_thing {K : PySem.W.Frag} : ∀ k ds M Q X, fsr_p_with_thing K (k + 1) ds M Q X → ds.length = ([.v, .v] : List AK).length → g_p_with_thing K k { nx := fun _ M' => Q .non M', rt := Q } (entry 2 [.v, .v] ds X) M := by
  rintro n ds M Q X ⟨t, y, rfl, hn, hz, ho, hy, q⟩ -
  cases t with
  | nil =>
    wp_walk using g_p_with_thing, Tt.d
    refine parted_of (K := K) (t := .nil) (Nat.zero_le _) ?_
    wp_walk
    exact q
  | nd x l r =>
    obtain ⟨hx, hl, hr⟩ := ho
    unfold withT at q
    simp only [Tt.size] at hn hz
    wp_walk using g_p_with_thing, Tt.d, at_0
    refine ⟨y, x, rfl, hy, hx, ?_⟩
    cases hu : upB y x
    · rw [if_neg (by rw [hu]; decide)] at q
      wp_walk using af2_p_with_thing, at_0, at_1, at_2
      by_cases h : y < x
      · rw [if_pos h] at q ⊢
        refine ⟨l, y, rfl, by omega, by omega, hl, hy, ?_⟩
        wp_walk using at_0, at_1, at_2
        exact q
      · rw [if_neg h] at q ⊢
        wp_walk using af1_p_with_thing, at_0, at_1, at_2
        refine ⟨r, y, rfl, by omega, by omega, hr, hy, ?_⟩
        wp_walk
        exact q
    · rw [if_pos hu] at q
      wp_walk
      refine parted_of (K := K) (t := .nd x l r) (by simp only [Tt.size]; omega) ?_
      wp_walk
      exact q
def fs_p_with_thing (K : PySem.W.Frag) : FS := fsr_p_with_thing K 45
def fsr_p_joined (K : PySem.W.Frag) (n : Nat) : FS := fun ds M Q _ => ∃ (s t : Tt), ds = [s.d, t.d] ∧ s.size + t.size < n ∧ s.ok ∧ t.ok ∧ Q (joinT s t).d M
theorem mor_p_joined {K : PySem.W.Frag} : ∀ n, MonoF (fsr_p_joined K n) := fun _ _ _ _ _ _ _ h _ ⟨s, t, e, c, c2, c3, q⟩ => ⟨s, t, e, c, c2, c3, h _ _ q⟩
theorem no_p_joined {K : PySem.W.Frag} : ∀ ds M Q X, fsr_p_joined K 0 ds M Q X → False := fun _ _ _ _ ⟨_, _, _, h, _⟩ => absurd h (Nat.not_lt_zero _)
/-- joined -/
def af1_p_joined (K : PySem.W.Frag) (k : Nat) : GS := gRet (gTup (gCons (g2 goIx (gV 1) (gC (.int 0))) (gCons (gCallP (fsr_p_joined K k) (gCons (gV 0) (gCons (g2 goIx (gV 1) (gC (.int 1))) gNil))) (gCons (g2 goIx (gV 1) (gC (.int 2))) gNil))))
def af2_p_joined (K : PySem.W.Frag) (k : Nat) : GS := gSeq (gIfS (gTru (gCallP (fs_p_is_upper K) (gCons (g2 goIx (gV 0) (gC (.int 0))) (gCons (g2 goIx (gV 1) (gC (.int 0))) gNil)))) (gRet (gTup (gCons (g2 goIx (gV 0) (gC (.int 0))) (gCons (g2 goIx (gV 0) (gC (.int 1))) (gCons (gCallP (fsr_p_joined K k) (gCons (g2 goIx (gV 0) (gC (.int 2))) (gCons (gV 1) gNil))) gNil))))) (gNext)) (af1_p_joined K k)
def g_p_joined (K : PySem.W.Frag) (k : Nat) : GS := gSeq (gIfS (gOr (gB (g2 (goEqE false) (gV 0) (gTup (gNil)))) (gB (g2 (goEqE false) (gV 1) (gTup (gNil))))) (gRet (g2 goAdd (gV 0) (gV 1))) (gNext)) (af2_p_joined K k)
theorem h_p_joined {K : PySem.W.Frag} : ∀ k ds M Q X, fsr_p_joined K (k + 1) ds M Q X → ds.length = ([.v, .v] : List AK).length → g_p_joined K k { nx := fun _ M' => Q .non M', rt := Q } (entry 2 [.v, .v] ds X) M := by
  rintro n ds M Q X ⟨s, t, rfl, hn, hs, ht, q⟩ -
  cases s with
  | nil =>
    have q : Q t.d M := by
      unfold joinT at q
      exact q
    cases t with
    | nil =>
      wp_walk using g_p_joined, Tt.d
      exact q
    | nd x l r =>
      wp_walk using g_p_joined, Tt.d
      exact q
  | nd x l r =>
    cases t with
    | nil =>
      have q : Q (Tt.nd x l r).d M := by
        unfold joinT at q
        exact q
      wp_walk using g_p_joined, Tt.d
      exact q
    | nd y a b =>
      unfold joinT at q
      simp only [Tt.size] at hn
      wp_walk using g_p_joined, Tt.d, af2_p_joined, at_0
      refine ⟨x, y, rfl, hs.1, ht.1, ?_⟩
      cases hu : upB x y
      · rw [if_neg (by rw [hu]; decide)] at q
        wp_walk using af1_p_joined, at_0, at_1, at_2
        refine ⟨.nd x l r, a, rfl, by simp only [Tt.size]; omega, hs, ht.2.1, ?_⟩
        wp_walk using at_0, at_1, at_2
        exact q
      · rw [if_pos hu] at q
        wp_walk using at_0, at_1, at_2
        refine ⟨r, .nd y a b, rfl, by simp only [Tt.size]; omega, hs.2.2, ht, ?_⟩
        wp_walk
        exact q
def fs_p_joined (K : PySem.W.Frag) : FS := fsr_p_joined K 45
/-- found on the way down -/
def fndT : Tt → Int → Bool
  | .nil, _ => false
  | .nd x l r, y => if x = y then true else if y < x then fndT l y else fndT r y
def fsr_p_without (K : PySem.W.Frag) (n : Nat) : FS := fun ds M Q _ => ∃ (t : Tt) (y : Int), ds = [t.d, .int y] ∧ t.size < n ∧ t.size ≤ 44 ∧ t.ok ∧ fndT t y = true ∧ Q (withoutT t y).d M
theorem mor_p_without {K : PySem.W.Frag} : ∀ n, MonoF (fsr_p_without K n) := fun _ _ _ _ _ _ _ h _ ⟨t, y, e, c, c2, c3, c4, q⟩ => ⟨t, y, e, c, c2, c3, c4, h _ _ q⟩
theorem no_p_without {K : PySem.W.Frag} : ∀ ds M Q X, fsr_p_without K 0 ds M Q X → False := fun _ _ _ _ ⟨_, _, _, h, _⟩ => absurd h (Nat.not_lt_zero _)
/-- without -/
def af1_p_without (K : PySem.W.Frag) (k : Nat) : GS := gRet (gTup (gCons (g2 goIx (gV 0) (gC (.int 0))) (gCons (g2 goIx (gV 0) (gC (.int 1))) (gCons (gCallP (fsr_p_without K k) (gCons (g2 goIx (gV 0) (gC (.int 2))) (gCons (gV 1) gNil))) gNil))))
def af2_p_without (K : PySem.W.Frag) (k : Nat) : GS := gSeq (gIfS (gB (g2 goLtA (gV 1) (g2 goIx (gV 0) (gC (.int 0))))) (gRet (gTup (gCons (g2 goIx (gV 0) (gC (.int 0))) (gCons (gCallP (fsr_p_without K k) (gCons (g2 goIx (gV 0) (gC (.int 1))) (gCons (gV 1) gNil))) (gCons (g2 goIx (gV 0) (gC (.int 2))) gNil))))) (gNext)) (af1_p_without K k)
def g_p_without (K : PySem.W.Frag) (k : Nat) : GS := gSeq (gIfS (gB (g2 goEqA (g2 goIx (gV 0) (gC (.int 0))) (gV 1))) (gRet (gCallP (fs_p_joined K) (gCons (g2 goIx (gV 0) (gC (.int 1))) (gCons (g2 goIx (gV 0) (gC (.int 2))) gNil)))) (gNext)) (af2_p_without K k)
theorem h_p_without {K : PySem.W.Frag} : ∀ k ds M Q X, fsr_p_without K (k + 1) ds M Q X → ds.length = ([.v, .v] : List AK).length → g_p_without K k { nx := fun _ M' => Q .non M', rt := Q } (entry 2 [.v, .v] ds X) M := by
  rintro n ds M Q X ⟨t, y, rfl, hn, hz, ho, hf, q⟩ -
  cases t with
  | nil => cases hf
  | nd x l r =>
    unfold withoutT at q
    unfold fndT at hf
    simp only [Tt.size] at hn hz
    wp_walk using g_p_without, Tt.d, at_0, at_1, at_2
    by_cases hx : x = y
    · rw [if_pos hx] at q ⊢
      exact ⟨l, r, rfl, by omega, ho.2.1, ho.2.2, q⟩
    rw [if_neg hx] at q hf ⊢
    wp_walk using af2_p_without, at_0, at_1, at_2
    by_cases h : y < x
    · rw [if_pos h] at q hf ⊢
      refine ⟨l, y, rfl, by omega, by omega, ho.2.1, hf, ?_⟩
      wp_walk using at_0, at_1, at_2
      exact q
    · rw [if_neg h] at q hf ⊢
      wp_walk using af1_p_without, at_0, at_1, at_2
      refine ⟨r, y, rfl, by omega, by omega, ho.2.2, hf, ?_⟩
      wp_walk
      exact q
def fs_p_without (K : PySem.W.Frag) : FS := fsr_p_without K 45
/-- the nodes on the way to a thing -/
def wayT : Tt → Int → List Tt
  | .nil, _ => []
  | .nd x l r, y => .nd x l r :: (if x = y then [] else if y < x then wayT l y else wayT r y)
def fs_p_way_of (K : PySem.W.Frag) : FS := fun ds M Q _ => ∃ (t : Tt) (y : Int), ds = [t.d, .int y] ∧ t.size ≤ 44 ∧ Q (.lst ((wayT t y).map Tt.d)) M
theorem mo_p_way_of {K : PySem.W.Frag} : MonoF (fs_p_way_of K) := fun _ _ _ _ _ _ h _ ⟨t, y, e, c, q⟩ => ⟨t, y, e, c, h _ _ q⟩
/-- way_of -/
def af1_p_way_of (K : PySem.W.Frag) : GS := gSet 3 (g2 goIx (gV 3) (g2 goAdd (gC (.int 1)) (gCa gcInt (gCons (g2 goGt (gV 1) (g2 goIx (gV 3) (gC (.int 0)))) gNil))))
def lp1_p_way_of (K : PySem.W.Frag) : GS := gSeq (gApp 2 (gV 3)) (gSeq (gIfS (gB (g2 goEqA (g2 goIx (gV 3) (gC (.int 0))) (gV 1))) (gFrz 2 (gRet (gV 2))) (gNext)) (af1_p_way_of K))
def af2_p_way_of (K : PySem.W.Frag) : GS := gFrz 2 (gRet (gV 2))
def g_p_way_of (K : PySem.W.Frag) : GS := gSeq (gOwn 2 (gFl (gNil))) (gSeq (gSet 3 (gV 0)) (gSeq (gWhile (gB (g2 (goEqE true) (gV 3) (gTup (gNil)))) (lp1_p_way_of K)) (af2_p_way_of K)))
theorem h_p_way_of {K : PySem.W.Frag} : ∀ ds M Q X, (fs_p_way_of K) ds M Q X → ds.length = ([.v, .v] : List AK).length → g_p_way_of K { nx := fun _ M' => Q .non M', rt := Q } (entry 4 [.v, .v] ds X) M := by
  rintro ds M Q X ⟨t, y, rfl, hz, q⟩ -
  wp_walk using g_p_way_of
  refine ⟨fun m r M' => M' = M ∧ ∃ (us : List Tt) (s : Tt), us ++ wayT s y = wayT t y ∧ us.length + s.size ≤ 44 ∧ m = s.size ∧ r = ⟨[.v t.d, .v (.int y), .o (.lst (us.map Tt.d)), .v s.d], X⟩, ⟨_, rfl, [], t, rfl, by simpa using hz, rfl, rfl⟩, ?_⟩
  rintro m r M' ⟨rfl, us, s, e, hl, rfl, rfl⟩
  cases s with
  | nil =>
    wp_walk using Tt.d
    rw [show wayT .nil y = [] from rfl, List.append_nil] at e
    wp_walk using af2_p_way_of
    rw [e]
    exact q
  | nd x l r =>
    simp only [Tt.size] at hl
    have ew : wayT (.nd x l r) y = .nd x l r :: (if x = y then [] else if y < x then wayT l y else wayT r y) := rfl
    wp_walk using Tt.d, lp1_p_way_of, at_0
    refine ⟨size_lt (by omega), ?_⟩
    by_cases hx : x = y
    · rw [if_pos hx] at ew ⊢
      rw [ew] at e
      have e2 : us.map Tt.d ++ [D.tup [.int x, l.d, r.d]] = (wayT t y).map Tt.d := by rw [← e, List.map_append]; rfl
      rw [e2]
      exact q
    · rw [if_neg hx] at ew ⊢
      rw [ew] at e
      have e2 : ∀ s', wayT s' y = (if y < x then wayT l y else wayT r y) → (us ++ [.nd x l r]) ++ wayT s' y = wayT t y := fun s' h => by rw [h, ← e, List.append_assoc]; rfl
      have e3 : us.map Tt.d ++ [D.tup [.int x, l.d, r.d]] = (us ++ [Tt.nd x l r]).map Tt.d := by rw [List.map_append]; rfl
      rw [e3]
      by_cases h : x < y
      · rw [if_neg (by omega)] at e2
        wp_walk using af1_p_way_of, at_0
        rw [if_pos h, show (1 + 1 : Int) = 2 from rfl, at_2]
        wp_walk
        exact ⟨r.size, by simp only [Tt.size]; omega, us ++ [.nd x l r], r, e2 r rfl, by rw [List.length_append, List.length_singleton]; omega, rfl, by rw [List.map_append]; rfl⟩
      · rw [if_pos (by omega)] at e2
        wp_walk using af1_p_way_of, at_0
        rw [if_neg h, show (1 + 0 : Int) = 1 from rfl, at_1]
        wp_walk
        exact ⟨l.size, by simp only [Tt.size]; omega, us ++ [.nd x l r], l, e2 l rfl, by rw [List.length_append, List.length_singleton]; omega, rfl, by rw [List.map_append]; rfl⟩
/-- all nodes, as they are met -/
def preT : Tt → List Tt
  | .nil => []
  | .nd x l r => .nd x l r :: (preT r ++ preT l)
def rootT : Tt → Int
  | .nil => 0
  | .nd x _ _ => x
def kvT (t : Tt) : Key × D := (.inl (rootT t), t.d)
theorem preT_len : ∀ t : Tt, (preT t).length = t.size
  | .nil => rfl
  | .nd x l r => by
    have h1 := preT_len l
    have h2 := preT_len r
    simp only [preT, Tt.size, List.length_cons, List.length_append]
    omega
def wsum : List Tt → Nat
  | [] => 0
  | t :: r => 2 * t.size + 1 + wsum r
theorem wsum_app : ∀ a b : List Tt, wsum (a ++ b) = wsum a + wsum b
  | [], b => (Nat.zero_add _).symm
  | t :: r, b => by
    show 2 * t.size + 1 + wsum (r ++ b) = 2 * t.size + 1 + wsum r + wsum b
    rw [wsum_app r b]; omega
theorem wsum_len : ∀ a : List Tt, a.length ≤ wsum a
  | [] => Nat.le_refl _
  | t :: r => by
    have := wsum_len r
    show r.length + 1 ≤ 2 * t.size + 1 + wsum r
    omega
theorem putT_new {ps : List Tt} {x : Int} {d : D} (h : x ∉ ps.map rootT) : putD (ps.map kvT) (.inl x) d = ps.map kvT ++ [(.inl x, d)] := by
  unfold putD
  rw [if_neg]
  intro z
  obtain ⟨kv, hk, e⟩ := List.any_eq_true.mp z
  obtain ⟨s, hs, rfl⟩ := List.mem_map.mp hk
  have e : (Sum.inl (rootT s) : Key) = .inl x := of_decide_eq_true e
  injection e with e
  exact h (List.mem_map.mpr ⟨s, hs, e⟩)
/-- the nodes of a tree, as a dict -/
def fs_p_nodes (K : PySem.W.Frag) : FS := fun ds M Q _ => ∃ t : Tt, ds = [t.d] ∧ t.size ≤ 44 ∧ ((preT t).map rootT).Nodup ∧ Q (.dic ((preT t).map kvT)) M
theorem mo_p_nodes {K : PySem.W.Frag} : MonoF (fs_p_nodes K) := fun _ _ _ _ _ _ h _ ⟨t, e, c, c2, q⟩ => ⟨t, e, c, c2, h _ _ q⟩
/-- nodes -/
def lp1_p_nodes (K : PySem.W.Frag) : GS := gSeq (gPopS 2 3) (gIfS (gB (g2 (goEqE true) (gV 3) (gTup (gNil)))) (gSeq (gOPut 1 (g2 goIx (gV 3) (gC (.int 0))) (gV 3)) (gExtT 2 (gsSl true (gV 3) (gPart (gC (.int 1))) (gNoP)))) (gNext))
def af1_p_nodes (K : PySem.W.Frag) : GS := gFrz 1 (gRet (gV 1))
def g_p_nodes (K : PySem.W.Frag) : GS := gSeq (gOwn 1 (gFdic0)) (gSeq (gOwn 2 (gFl (gCons (gV 0) gNil))) (gSeq (gWhile (gB (g2 (goEqE true) (gVw 2) (gLst (gNil)))) (lp1_p_nodes K)) (af1_p_nodes K)))
theorem h_p_nodes {K : PySem.W.Frag} : ∀ ds M Q X, (fs_p_nodes K) ds M Q X → ds.length = ([.v] : List AK).length → g_p_nodes K { nx := fun _ M' => Q .non M', rt := Q } (entry 4 [.v] ds X) M := by
  rintro ds M Q X ⟨t, rfl, hz, hnd, q⟩ -
  wp_walk using g_p_nodes
  refine ⟨fun m r M' => M' = M ∧ ∃ (ps ws : List Tt) (x3 : Sl), ps ++ ws.reverse.flatMap preT = preT t ∧ m = wsum ws ∧ wsum ws ≤ 89 ∧ r = ⟨[.v t.d, .o (.dic (ps.map kvT)), .o (.lst (ws.map Tt.d)), x3], X⟩, ⟨_, rfl, [], [t], .n, by simp, rfl, by show 2 * t.size + 1 + 0 ≤ 89; omega, rfl⟩, ?_⟩
  rintro m r M' ⟨rfl, ps, ws, x3, e, rfl, hw, rfl⟩
  rcases List.eq_nil_or_concat ws with rfl | ⟨ws', s, rfl⟩
  · wp_walk
    rw [show ([] : List Tt).reverse.flatMap preT = [] from rfl, List.append_nil] at e
    wp_walk using af1_p_nodes
    rw [e]
    exact q
  · have hne : ¬ (ws'.map Tt.d ++ [s.d]).isEmpty = true := by simp
    have em : (ws' ++ [s]).map Tt.d = ws'.map Tt.d ++ [s.d] := by rw [List.map_append]; rfl
    have er : (ws' ++ [s]).reverse.flatMap preT = preT s ++ ws'.reverse.flatMap preT := by rw [List.reverse_append]; rfl
    rw [List.concat_eq_append] at e hw ⊢
    rw [er] at e
    rw [wsum_app] at hw
    have hwl := wsum_len ws'
    wp_walk
    rw [if_neg hne, wsum_app]
    wp_walk using lp1_p_nodes
    refine ⟨ws'.map Tt.d, s.d, rfl, ?_⟩
    cases s with
    | nil =>
      wp_walk using Tt.d
      exact ⟨wsum ws', by show _ < wsum ws' + (2 * 0 + 1 + 0); omega, ps, ws', _, e, rfl, by omega, rfl⟩
    | nd x l r =>
      have hs : wsum [Tt.nd x l r] = 2 * (l.size + r.size + 1) + 1 := rfl
      have hs2 : wsum [l, r] = 2 * l.size + 1 + (2 * r.size + 1) := rfl
      have hlen : ps.length + (l.size + r.size + 1) ≤ 44 := by
        have := congrArg List.length e
        rw [List.length_append, List.length_append, preT_len, preT_len] at this
        simp only [Tt.size] at this
        omega
      have hx : x ∉ ps.map rootT := fun z => by
        rw [← e, List.map_append] at hnd
        have := (List.nodup_append.mp hnd).2.2 x z x (by simp [preT, rootT])
        exact this rfl
      have ec : DL.cutD [D.int x, l.d, r.d] (some 1) none = [l.d, r.d] := by
        rw [cutS_drop (by decide)]
        rfl
      wp_walk using Tt.d, at_0
      rw [ec, putT_new hx]
      refine ⟨size_lt (by omega), size_of (by simp; omega), wsum (ws' ++ [l, r]), ?_, ps ++ [.nd x l r], ws' ++ [l, r], .v (.tup [.int x, l.d, r.d]), ?_, rfl, ?_, ?_⟩
      · rw [wsum_app]
        omega
      · rw [← e, List.append_assoc, List.reverse_append, List.flatMap_append]
        simp [preT]
      · rw [wsum_app]
        omega
      · rw [List.map_append, List.map_append]
        rfl
end
section
variable {K : PySem.W.Frag}
set_option maxHeartbeats 1000000
theorem upB_iff {a b : Int} : upB a b = true ↔ turnI a < turnI b ∨ (turnI a = turnI b ∧ a < b) := by
  unfold upB
  rw [Bool.or_eq_true, Bool.and_eq_true, decide_eq_true_eq, decide_eq_true_eq, decide_eq_true_eq]
theorem upB_tr {a b c : Int} (h : upB a b = true) (k : upB b c = true) : upB a c = true := by
  rw [upB_iff] at h k ⊢
  omega
theorem upB_tot {a b : Int} (h : a ≠ b) : upB a b = true ∨ upB b a = true := by
  rw [upB_iff, upB_iff]
  omega
theorem upB_asym {a b : Int} (h : upB a b = true) (k : upB b a = true) : False := by
  rw [upB_iff] at h k
  omega
/-- lesser ones first, upper ones above -/
def Tt.wf : Tt → Prop
  | .nil => True
  | .nd x l r => l.wf ∧ r.wf ∧ (∀ y, l.mem y → y < x ∧ upB x y = true) ∧ (∀ y, r.mem y → x < y ∧ upB x y = true)
theorem wf_uniq : ∀ {t s : Tt}, t.wf → s.wf → (∀ y, t.mem y ↔ s.mem y) → t = s
  | .nil, .nil, _, _, _ => rfl
  | .nil, .nd x l r, _, _, h => ((h x).mpr (.inl rfl)).elim
  | .nd x l r, .nil, _, _, h => ((h x).mp (.inl rfl)).elim
  | .nd x l r, .nd y a b, ⟨w1, w2, w3, w4⟩, ⟨v1, v2, v3, v4⟩, h => by
    have e : x = y := by
      by_cases e : x = y
      · exact e
      · exfalso
        have h1 : upB y x = true := by
          rcases (h x).mp (.inl rfl) with q | q | q
          · exact absurd q e
          · exact (v3 x q).2
          · exact (v4 x q).2
        have h2 : upB x y = true := by
          rcases (h y).mpr (.inl rfl) with q | q | q
          · exact absurd q.symm e
          · exact (w3 y q).2
          · exact (w4 y q).2
        exact upB_asym h1 h2
    subst e
    have el : l = a := wf_uniq w1 v1 fun z => by
      constructor
      · intro q
        have lt := (w3 z q).1
        rcases (h z).mp (.inr (.inl q)) with c | c | c
        · omega
        · exact c
        · have := (v4 z c).1
          omega
      · intro q
        have lt := (v3 z q).1
        rcases (h z).mpr (.inr (.inl q)) with c | c | c
        · omega
        · exact c
        · have := (w4 z c).1
          omega
    have er : r = b := wf_uniq w2 v2 fun z => by
      constructor
      · intro q
        have lt := (w4 z q).1
        rcases (h z).mp (.inr (.inr q)) with c | c | c
        · omega
        · have := (v3 z c).1
          omega
        · exact c
      · intro q
        have lt := (v4 z q).1
        rcases (h z).mpr (.inr (.inr q)) with c | c | c
        · omega
        · have := (w3 z c).1
          omega
        · exact c
    rw [el, er]
/-- the things, lesser ones first -/
def inT : Tt → List Int
  | .nil => []
  | .nd x l r => inT l ++ x :: inT r
theorem inT_mem : ∀ {t : Tt} {y : Int}, y ∈ inT t ↔ t.mem y
  | .nil, y => ⟨fun h => (by cases h), fun h => h.elim⟩
  | .nd x l r, y => by
    show y ∈ inT l ++ x :: inT r ↔ y = x ∨ l.mem y ∨ r.mem y
    rw [List.mem_append, List.mem_cons, inT_mem (t := l), inT_mem (t := r)]
    constructor
    · rintro (h | h | h)
      · exact .inr (.inl h)
      · exact .inl h
      · exact .inr (.inr h)
    · rintro (h | h | h)
      · exact .inr (.inl h)
      · exact .inl h
      · exact .inr (.inr h)
theorem inT_len : ∀ t : Tt, (inT t).length = t.size
  | .nil => rfl
  | .nd x l r => by
    show (inT l ++ x :: inT r).length = l.size + r.size + 1
    rw [List.length_append, List.length_cons, inT_len l, inT_len r]
    omega
theorem part_in : ∀ (t : Tt) (y : Int), inT (partT t y).1 ++ inT (partT t y).2 = inT t
  | .nil, _ => rfl
  | .nd x l r, y => by
    unfold partT
    split
    · show inT (partT l y).1 ++ (inT (partT l y).2 ++ x :: inT r) = inT l ++ x :: inT r
      rw [← List.append_assoc, part_in l y]
    · show (inT l ++ x :: inT (partT r y).1) ++ inT (partT r y).2 = inT l ++ x :: inT r
      rw [List.append_assoc, List.cons_append, part_in r y]
theorem with_perm : ∀ (t : Tt) (y : Int), (inT (withT t y)).Perm (y :: inT t)
  | .nil, y => List.Perm.refl _
  | .nd x l r, y => by
    unfold withT
    split
    · show (inT (partT (.nd x l r) y).1 ++ y :: inT (partT (.nd x l r) y).2).Perm _
      rw [← part_in (.nd x l r) y]
      exact List.perm_middle
    · split
      · exact (with_perm l y).append_right (x :: inT r)
      · show (inT l ++ x :: inT (withT r y)).Perm (y :: (inT l ++ x :: inT r))
        refine (((with_perm r y).cons x).append_left (inT l)).trans ?_
        exact ((List.Perm.swap y x (inT r)).append_left (inT l)).trans List.perm_middle
theorem with_mem {t : Tt} {y z : Int} : (withT t y).mem z ↔ z = y ∨ t.mem z := by
  rw [← inT_mem, (with_perm t y).mem_iff, List.mem_cons, inT_mem]
/-- the tree of some things -/
def treeN (ns : List Int) : Tt := ns.foldl withT .nil
theorem fold_perm : ∀ (ns : List Int) (t : Tt), (inT (ns.foldl withT t)).Perm (ns ++ inT t)
  | [], t => List.Perm.refl _
  | y :: ns, t => (fold_perm ns (withT t y)).trans (((with_perm t y).append_left ns).trans List.perm_middle)
theorem tree_perm (ns : List Int) : (inT (treeN ns)).Perm ns := by
  have := fold_perm ns .nil
  rwa [show inT .nil = [] from rfl, List.append_nil] at this
theorem tree_mem {ns : List Int} {y : Int} : (treeN ns).mem y ↔ y ∈ ns := inT_mem.symm.trans (tree_perm ns).mem_iff
theorem tree_size (ns : List Int) : (treeN ns).size = ns.length := by rw [← inT_len]; exact (tree_perm ns).length_eq
theorem tree_put (ns : List Int) (y : Int) : withT (treeN ns) y = treeN (ns ++ [y]) := by
  unfold treeN
  rw [List.foldl_append]
  rfl
theorem part_spec : ∀ {t : Tt} {y : Int}, t.wf → ¬ t.mem y → (partT t y).1.wf ∧ (partT t y).2.wf ∧ (∀ z, (partT t y).1.mem z → t.mem z ∧ z < y) ∧ (∀ z, (partT t y).2.mem z → t.mem z ∧ y < z)
  | .nil, y, _, _ => ⟨trivial, trivial, fun _ h => h.elim, fun _ h => h.elim⟩
  | .nd x l r, y, ⟨wl, wr, hl, hr⟩, nm => by
    have nx : y ≠ x := fun e => nm (.inl e)
    unfold partT
    split
    · rename_i h
      obtain ⟨a, b, c, d⟩ := part_spec (y := y) wl fun m => nm (.inr (.inl m))
      refine ⟨a, ⟨b, wr, fun z m => hl z (d z m).1, hr⟩, fun z m => ⟨.inr (.inl (c z m).1), (c z m).2⟩, fun z m => ?_⟩
      rcases m with e | m | m
      · exact ⟨.inl e, by omega⟩
      · exact ⟨.inr (.inl (d z m).1), (d z m).2⟩
      · exact ⟨.inr (.inr m), by have := (hr z m).1; omega⟩
    · rename_i h
      obtain ⟨a, b, c, d⟩ := part_spec (y := y) wr fun m => nm (.inr (.inr m))
      refine ⟨⟨wl, a, hl, fun z m => hr z (c z m).1⟩, b, fun z m => ?_, fun z m => ⟨.inr (.inr (d z m).1), (d z m).2⟩⟩
      rcases m with e | m | m
      · exact ⟨.inl e, by omega⟩
      · exact ⟨.inr (.inl m), by have := (hl z m).1; omega⟩
      · exact ⟨.inr (.inr (c z m).1), (c z m).2⟩
theorem with_wf : ∀ {t : Tt} {y : Int}, t.wf → ¬ t.mem y → (withT t y).wf
  | .nil, y, _, _ => ⟨trivial, trivial, fun _ h => h.elim, fun _ h => h.elim⟩
  | .nd x l r, y, w, nm => by
    have w0 := w
    obtain ⟨wl, wr, hl, hr⟩ := w
    unfold withT
    split
    · rename_i h
      obtain ⟨a, b, c, d⟩ := part_spec w0 nm
      have up : ∀ z, (Tt.nd x l r).mem z → upB y z = true := fun z m => by
        rcases m with e | m | m
        · rw [e]
          exact h
        · exact upB_tr h (hl z m).2
        · exact upB_tr h (hr z m).2
      exact ⟨a, b, fun z m => ⟨(c z m).2, up z (c z m).1⟩, fun z m => ⟨(d z m).2, up z (d z m).1⟩⟩
    · rename_i h
      have nx : y ≠ x := fun e => nm (.inl e)
      have hx : upB x y = true := (upB_tot nx).resolve_left h
      split
      · rename_i h2
        refine ⟨with_wf wl fun m => nm (.inr (.inl m)), wr, fun z m => ?_, hr⟩
        rcases with_mem.mp m with e | m
        · rw [e]
          exact ⟨h2, hx⟩
        · exact hl z m
      · rename_i h2
        refine ⟨wl, with_wf wr fun m => nm (.inr (.inr m)), hl, fun z m => ?_⟩
        rcases with_mem.mp m with e | m
        · rw [e]
          exact ⟨by omega, hx⟩
        · exact hr z m
theorem fold_wf : ∀ (ns : List Int) {t : Tt}, t.wf → (∀ y ∈ ns, ¬ t.mem y) → ns.Nodup → (ns.foldl withT t).wf
  | [], _, w, _, _ => w
  | y :: ns, t, w, h, nd => fold_wf ns (with_wf w (h y (List.mem_cons_self ..))) (fun z hz m => by
      rcases with_mem.mp m with e | m
      · subst e
        exact (List.nodup_cons.mp nd).1 hz
      · exact h z (List.mem_cons_of_mem _ hz) m) (List.nodup_cons.mp nd).2
theorem tree_wf {ns : List Int} (nd : ns.Nodup) : (treeN ns).wf := fold_wf ns (t := .nil) trivial (fun _ _ h => h) nd
theorem join_spec (n : Nat) : ∀ (a b : Tt), a.size + b.size ≤ n → a.wf → b.wf → (∀ u v, a.mem u → b.mem v → u < v) → (joinT a b).wf ∧ ∀ z, (joinT a b).mem z ↔ a.mem z ∨ b.mem z := by
  have hnil : ∀ b : Tt, b.wf → (joinT .nil b).wf ∧ ∀ z, (joinT .nil b).mem z ↔ Tt.nil.mem z ∨ b.mem z := fun b wb => by
    unfold joinT
    exact ⟨wb, fun z => ⟨.inr, fun h => h.resolve_left fun f => f⟩⟩
  induction n with
  | zero =>
    intro a b hs wa wb h
    cases a with
    | nil => exact hnil b wb
    | nd x l r => simp only [Tt.size] at hs; omega
  | succ n ih =>
    intro a b hs wa wb h
    cases a with
    | nil => exact hnil b wb
    | nd x l r =>
      cases b with
      | nil =>
        unfold joinT
        exact ⟨wa, fun z => ⟨.inl, fun h => h.resolve_right fun f => f⟩⟩
      | nd y c d =>
        have wa0 := wa
        have wb0 := wb
        obtain ⟨w1, w2, w3, w4⟩ := wa
        obtain ⟨v1, v2, v3, v4⟩ := wb
        simp only [Tt.size] at hs
        have hxy : x < y := h x y (.inl rfl) (.inl rfl)
        unfold joinT
        split
        · rename_i hu
          obtain ⟨i1, i2⟩ := ih r (.nd y c d) (by simp only [Tt.size]; omega) w2 wb0 fun u v hu' hv => h u v (.inr (.inr hu')) hv
          refine ⟨⟨w1, i1, w3, fun z m => ?_⟩, fun z => ?_⟩
          · rcases (i2 z).mp m with m | m
            · exact w4 z m
            · refine ⟨h x z (.inl rfl) m, ?_⟩
              rcases m with e | m | m
              · rw [e]
                exact hu
              · exact upB_tr hu (v3 z m).2
              · exact upB_tr hu (v4 z m).2
          · show z = x ∨ l.mem z ∨ (joinT r (.nd y c d)).mem z ↔ (z = x ∨ l.mem z ∨ r.mem z) ∨ (Tt.nd y c d).mem z
            rw [i2 z]
            constructor
            · rintro (e | m | m | m)
              · exact .inl (.inl e)
              · exact .inl (.inr (.inl m))
              · exact .inl (.inr (.inr m))
              · exact .inr m
            · rintro ((e | m | m) | m)
              · exact .inl e
              · exact .inr (.inl m)
              · exact .inr (.inr (.inl m))
              · exact .inr (.inr (.inr m))
        · rename_i hu
          have hyx : upB y x = true := (upB_tot (show x ≠ y by omega)).resolve_left hu
          obtain ⟨i1, i2⟩ := ih (.nd x l r) c (by simp only [Tt.size]; omega) wa0 v1 fun u v hu' hv => h u v hu' (.inr (.inl hv))
          refine ⟨⟨i1, v2, fun z m => ?_, v4⟩, fun z => ?_⟩
          · rcases (i2 z).mp m with m | m
            · refine ⟨h z y m (.inl rfl), ?_⟩
              rcases m with e | m | m
              · rw [e]
                exact hyx
              · exact upB_tr hyx (w3 z m).2
              · exact upB_tr hyx (w4 z m).2
            · exact v3 z m
          · show z = y ∨ (joinT (.nd x l r) c).mem z ∨ d.mem z ↔ (Tt.nd x l r).mem z ∨ (z = y ∨ c.mem z ∨ d.mem z)
            rw [i2 z]
            constructor
            · rintro (e | (m | m) | m)
              · exact .inr (.inl e)
              · exact .inl m
              · exact .inr (.inr (.inl m))
              · exact .inr (.inr (.inr m))
            · rintro (m | e | m | m)
              · exact .inr (.inl (.inl m))
              · exact .inl e
              · exact .inr (.inl (.inr m))
              · exact .inr (.inr m)
theorem without_spec : ∀ {t : Tt} {y : Int}, t.wf → (withoutT t y).wf ∧ ∀ z, (withoutT t y).mem z ↔ t.mem z ∧ z ≠ y
  | .nil, y, _ => ⟨trivial, fun z => ⟨fun h => h.elim, fun h => h.1⟩⟩
  | .nd x l r, y, w => by
    obtain ⟨wl, wr, hl, hr⟩ := w
    unfold withoutT
    split
    · rename_i e
      obtain ⟨i1, i2⟩ := join_spec _ l r (Nat.le_refl _) wl wr fun u v hu hv => Int.lt_trans (hl u hu).1 (hr v hv).1
      refine ⟨i1, fun z => ?_⟩
      rw [i2 z]
      constructor
      · rintro (m | m)
        · exact ⟨.inr (.inl m), fun e2 => by have := (hl z m).1; omega⟩
        · exact ⟨.inr (.inr m), fun e2 => by have := (hr z m).1; omega⟩
      · rintro ⟨e2 | m | m, n⟩
        · exact absurd (e2.trans e) n
        · exact .inl m
        · exact .inr m
    · rename_i e
      split
      · rename_i lt
        obtain ⟨i1, i2⟩ := without_spec (y := y) wl
        refine ⟨⟨i1, wr, fun z m => hl z ((i2 z).mp m).1, hr⟩, fun z => ?_⟩
        show z = x ∨ (withoutT l y).mem z ∨ r.mem z ↔ (z = x ∨ l.mem z ∨ r.mem z) ∧ z ≠ y
        rw [i2 z]
        constructor
        · rintro (e2 | ⟨m, n⟩ | m)
          · exact ⟨.inl e2, fun e3 => by omega⟩
          · exact ⟨.inr (.inl m), n⟩
          · exact ⟨.inr (.inr m), fun e3 => by have := (hr z m).1; omega⟩
        · rintro ⟨e2 | m | m, n⟩
          · exact .inl e2
          · exact .inr (.inl ⟨m, n⟩)
          · exact .inr (.inr m)
      · rename_i lt
        obtain ⟨i1, i2⟩ := without_spec (y := y) wr
        refine ⟨⟨wl, i1, hl, fun z m => hr z ((i2 z).mp m).1⟩, fun z => ?_⟩
        show z = x ∨ l.mem z ∨ (withoutT r y).mem z ↔ (z = x ∨ l.mem z ∨ r.mem z) ∧ z ≠ y
        rw [i2 z]
        constructor
        · rintro (e2 | m | ⟨m, n⟩)
          · exact ⟨.inl e2, fun e3 => by omega⟩
          · exact ⟨.inr (.inl m), fun e3 => by have := (hl z m).1; omega⟩
          · exact ⟨.inr (.inr m), n⟩
        · rintro ⟨e2 | m | m, n⟩
          · exact .inl e2
          · exact .inr (.inl m)
          · exact .inr (.inr ⟨m, n⟩)
theorem tree_take {ns : List Int} (nd : ns.Nodup) (y : Int) : withoutT (treeN ns) y = treeN (ns.filter fun n => !decide (n = y)) := by
  obtain ⟨i1, i2⟩ := without_spec (y := y) (tree_wf nd)
  refine wf_uniq i1 (tree_wf (nd.sublist List.filter_sublist)) fun z => ?_
  rw [i2 z, tree_mem, tree_mem, List.mem_filter]
  simp
theorem tree_eq {ns ms : List Int} (nd : ns.Nodup) (md : ms.Nodup) (h : ∀ y, y ∈ ns ↔ y ∈ ms) : treeN ns = treeN ms := wf_uniq (tree_wf nd) (tree_wf md) fun z => by rw [tree_mem, tree_mem, h z]
theorem ok_iff : ∀ {t : Tt}, t.ok ↔ ∀ y, t.mem y → 0 ≤ y ∧ y ≤ 999999
  | .nil => ⟨fun _ _ h => h.elim, fun _ => trivial⟩
  | .nd x l r => by
    show ((0 ≤ x ∧ x ≤ 999999) ∧ l.ok ∧ r.ok) ↔ _
    rw [ok_iff (t := l), ok_iff (t := r)]
    constructor
    · intro ⟨h1, h2, h3⟩ y m
      rcases m with e | m | m
      · rw [e]
        exact h1
      · exact h2 y m
      · exact h3 y m
    · exact fun h => ⟨h x (.inl rfl), fun y m => h y (.inr (.inl m)), fun y m => h y (.inr (.inr m))⟩
theorem tree_ok {ns : List Int} (hs : SetN ns) : (treeN ns).ok := ok_iff.mpr fun y m => hs.rng y (tree_mem.mp m)
theorem fnd_iff : ∀ {t : Tt} {y : Int}, t.wf → (fndT t y = true ↔ t.mem y)
  | .nil, y, _ => ⟨fun h => (by cases h), fun h => h.elim⟩
  | .nd x l r, y, ⟨wl, wr, hl, hr⟩ => by
    unfold fndT
    show _ ↔ y = x ∨ l.mem y ∨ r.mem y
    split
    · rename_i e
      exact ⟨fun _ => .inl e.symm, fun _ => rfl⟩
    · rename_i e
      split
      · rename_i lt
        rw [fnd_iff wl]
        refine ⟨fun m => .inr (.inl m), ?_⟩
        rintro (e2 | m | m)
        · exact absurd e2.symm e
        · exact m
        · have := (hr y m).1
          omega
      · rename_i lt
        rw [fnd_iff wr]
        refine ⟨fun m => .inr (.inr m), ?_⟩
        rintro (e2 | m | m)
        · exact absurd e2.symm e
        · have := (hl y m).1
          omega
        · exact m
theorem pre_perm : ∀ t : Tt, ((preT t).map rootT).Perm (inT t)
  | .nil => List.Perm.refl _
  | .nd x l r => by
    show (x :: (preT r ++ preT l).map rootT).Perm (inT l ++ x :: inT r)
    rw [List.map_append]
    refine List.Perm.trans (((pre_perm r).append (pre_perm l)).cons x) ?_
    exact ((List.perm_append_comm).cons x).trans List.perm_middle.symm
theorem in_srt : ∀ {t : Tt}, t.wf → (inT t).Pairwise (· < ·)
  | .nil, _ => List.Pairwise.nil
  | .nd x l r, ⟨wl, wr, hl, hr⟩ => by
    show (inT l ++ x :: inT r).Pairwise (· < ·)
    rw [List.pairwise_append]
    refine ⟨in_srt wl, List.pairwise_cons.mpr ⟨fun z hz => (hr z (inT_mem.mp hz)).1, in_srt wr⟩, fun u hu v hv => ?_⟩
    have h1 := (hl u (inT_mem.mp hu)).1
    rcases List.mem_cons.mp hv with rfl | hv
    · exact h1
    · have := (hr v (inT_mem.mp hv)).1
      omega
theorem tree_in {ns : List Int} (nd : ns.Nodup) : inT (treeN ns) = srt ns := srt_eq (tree_perm ns) ((in_srt (tree_wf nd)).imp fun h => Int.le_of_lt h)
theorem pre_nd {ns : List Int} (nd : ns.Nodup) : ((preT (treeN ns)).map rootT).Nodup := (((pre_perm _).trans (tree_perm ns)).nodup_iff).mpr nd
theorem way_last : ∀ {t : Tt} {y : Int}, t.wf → ((wayT t y = [] → t = .nil) ∧ ∀ s, (wayT t y).getLast? = some s → (rootT s = y ↔ t.mem y))
  | .nil, y, _ => ⟨fun _ => rfl, fun s h => by cases h⟩
  | .nd x l r, y, ⟨wl, wr, hl, hr⟩ => by
    have il := way_last (y := y) wl
    have ir := way_last (y := y) wr
    refine ⟨fun h => by (unfold wayT at h; cases h), fun s h => ?_⟩
    show _ ↔ y = x ∨ l.mem y ∨ r.mem y
    unfold wayT at h
    by_cases e : x = y
    · rw [if_pos e] at h
      cases h
      exact ⟨fun _ => .inl e.symm, fun _ => e⟩
    · rw [if_neg e] at h
      have go : ∀ {u : Tt}, ((wayT u y = [] → u = .nil) ∧ ∀ s, (wayT u y).getLast? = some s → (rootT s = y ↔ u.mem y)) → (Tt.nd x l r :: wayT u y).getLast? = some s → (rootT s = y ↔ u.mem y) := fun {u} ⟨i1, i2⟩ h => by
        cases ew : wayT u y with
        | nil =>
          rw [ew] at h
          cases h
          have := i1 ew
          subst this
          exact ⟨fun z => absurd z e, fun z => z.elim⟩
        | cons a b =>
          rw [ew, List.getLast?_cons_cons, ← ew] at h
          exact i2 s h
      by_cases lt : y < x
      · rw [if_pos lt] at h
        have hu : (y = x ∨ l.mem y ∨ r.mem y ↔ l.mem y) := ⟨by
          rintro (e2 | m | m)
          · exact absurd e2.symm e
          · exact m
          · have := (hr y m).1
            omega, fun m => .inr (.inl m)⟩
        rw [hu]
        exact go il h
      · rw [if_neg lt] at h
        have hu : (y = x ∨ l.mem y ∨ r.mem y ↔ r.mem y) := ⟨by
          rintro (e2 | m | m)
          · exact absurd e2.symm e
          · have := (hl y m).1
            omega
          · exact m, fun m => .inr (.inr m)⟩
        rw [hu]
        exact go ir h
end
section
variable {K : PySem.W.Frag}
set_option maxHeartbeats 1000000
theorem Tt.ok1 : ∀ {t : Tt} {k : Nat}, t.size ≤ k → Ok1 (k + 1) t.d
  | .nil, k, _ => ok1_tup (k := k) fun d hd => by cases hd
  | .nd x l r, k, h => by
    simp only [Tt.size] at h
    obtain ⟨j, rfl⟩ : ∃ j, k = j + 1 := ⟨k - 1, by omega⟩
    refine ok1_tup fun d hd => ?_
    simp only [List.mem_cons, List.not_mem_nil, or_false] at hd
    rcases hd with rfl | rfl | rfl
    · exact (ok1_int x).mono (Nat.zero_le _)
    · exact Tt.ok1 (by omega)
    · exact Tt.ok1 (by omega)
theorem Tt.dok {t : Tt} (h : t.size ≤ 44) : t.d.ok = true := (Tt.ok1 h).ok (by omega)
/-- how many of the nodes of one dict are none of the other's -/
def newK (ka kb : List (Key × D)) : Nat := (kb.filter fun kv => !((valD ka kv.1).getD .non).eqv kv.2).length
def newN (a b : Tt) : Nat := newK ((preT a).map kvT) ((preT b).map kvT)
def fs_p_need_place_d (K : PySem.W.Frag) : FS := fun ds M Q X => ∃ kds, ds = [.dic kds] ∧ (kds.length ≠ 40 → Q .non M) ∧ (kds.length = 40 → X (He.ga K "TooMany") M)
theorem mo_p_need_place_d {K : PySem.W.Frag} : MonoF (fs_p_need_place_d K) := fun _ _ _ _ _ _ h hx ⟨xs, e, q, q2⟩ => ⟨xs, e, fun z => h _ _ (q z), fun z => hx _ _ (q2 z)⟩
/-- need_place#d -/
def g_p_need_place_d (K : PySem.W.Frag) : GS := gIfS (gB (g2 goEqA (gCa gcLen (gCons (gV 0) gNil)) (gC (.int 40)))) (gRaise (He.ga K "TooMany")) (gNext)
theorem h_p_need_place_d {K : PySem.W.Frag} : ∀ ds M Q X, (fs_p_need_place_d K) ds M Q X → ds.length = ([.v] : List AK).length → g_p_need_place_d K { nx := fun _ M' => Q .non M', rt := Q } (entry 1 [.v] ds X) M := by
  rintro ds M Q X ⟨kds, rfl, q, q2⟩ -
  wp_walk using g_p_need_place_d
  split
  · exact q2 (by omega)
  · exact q (by omega)
theorem keyI_get {ps : List Tt} {t : Tt} (nd : (ps.map rootT).Nodup) (h : t ∈ ps) : valD (ps.map kvT) (.inl (rootT t)) = some t.d := by
  induction ps with
  | nil => cases h
  | cons s ps ih =>
    rw [List.map_cons, List.nodup_cons] at nd
    unfold valD
    rw [List.map_cons, List.find?_cons]
    by_cases e : rootT s = rootT t
    · have es : s = t := by
        rcases List.mem_cons.mp h with h | h
        · exact h.symm
        · exact absurd (e ▸ List.mem_map.mpr ⟨t, h, rfl⟩) nd.1
      subst es
      rw [show decide ((kvT s).1 = Sum.inl (rootT s)) = true from decide_eq_true rfl]
      rfl
    · rw [show decide ((kvT s).1 = Sum.inl (rootT t)) = false from decide_eq_false fun z => e (by injection z)]
      exact ih nd.2 ((List.mem_cons.mp h).resolve_left fun z => e (by rw [z]))
theorem preT_size : ∀ {t s : Tt}, s ∈ preT t → s.size ≤ t.size ∧ s.size ≠ 0
  | .nil, s, h => by cases h
  | .nd x l r, s, h => by
    simp only [preT, List.mem_cons, List.mem_append, Tt.size] at h ⊢
    rcases h with rfl | h | h
    · simp only [Tt.size]
      omega
    · have := preT_size h
      omega
    · have := preT_size h
      omega
theorem valD_mem {kds : List (Key × D)} {k : Key} {d : D} (h : valD kds k = some d) : (k, d) ∈ kds := by
  unfold valD at h
  cases e : kds.find? fun kv => decide (kv.1 = k) with
  | none => rw [e] at h; cases h
  | some kv =>
    rw [e] at h
    cases h
    have h1 := List.mem_of_find?_eq_some e
    have h3 : decide (kv.1 = k) = true := List.find?_some (p := fun kv : Key × D => decide (kv.1 = k)) e
    have h2 := of_decide_eq_true h3
    rw [← h2]
    exact h1
theorem neT {M : Mem} {Q : D → Mem → Prop} {v : D} {t : Tt} (hv : v = .non ∨ ∃ s : Tt, v = s.d ∧ s.size ≤ 44) (ht : t.size ≤ 44) : goNeA v t.d M Q = Q (.bl (!v.eqv t.d)) M := by
  rcases hv with rfl | ⟨s, rfl, hs⟩
  · rw [goNe_non]
    exact propext ⟨fun h => h.2, fun h => ⟨⟨rfl, Tt.dok ht⟩, h⟩⟩
  · have := Tt.dok hs
    cases s
    all_goals exact propext ⟨fun h => h.2, fun h => ⟨⟨this, Tt.dok ht⟩, h⟩⟩
def fs_p_new_nodes (K : PySem.W.Frag) : FS := fun ds M Q _ => ∃ a b : Tt, ds = [a.d, b.d] ∧ (a.size ≤ 44 ∧ ((preT a).map rootT).Nodup) ∧ (b.size ≤ 44 ∧ ((preT b).map rootT).Nodup) ∧ Q (.int (newN a b : Nat)) M
theorem mo_p_new_nodes {K : PySem.W.Frag} : MonoF (fs_p_new_nodes K) := fun _ _ _ _ _ _ h _ ⟨a, b, e, c, c2, q⟩ => ⟨a, b, e, c, c2, h _ _ q⟩
/-- new_nodes -/
def cu1_p_new_nodes (K : PySem.W.Frag) : GS := gRet (gCa gcLen (gCons (gFd (gLc (giKeys (gV 3)) (gtN 4) (gB (g2 goNeA (gDGet1 (gV 2) (gV 4)) (g2 goIx (gV 3) (gV 4)))) (gV 4) [4])) gNil))
def cu2_p_new_nodes (K : PySem.W.Frag) : GS := gSeq (gSet 3 (gCallP (fs_p_nodes K) (gCons (gV 1) gNil))) (cu1_p_new_nodes K)
def g_p_new_nodes (K : PySem.W.Frag) : GS := gSeq (gSet 2 (gCallP (fs_p_nodes K) (gCons (gV 0) gNil))) (cu2_p_new_nodes K)
theorem h_p_new_nodes {K : PySem.W.Frag} : ∀ ds M Q X, (fs_p_new_nodes K) ds M Q X → ds.length = ([.v, .v] : List AK).length → g_p_new_nodes K { nx := fun _ M' => Q .non M', rt := Q } (entry 5 [.v, .v] ds X) M := by
  rintro ds M Q X ⟨a, b, rfl, ⟨ha, na⟩, ⟨hb, nb⟩, q⟩ -
  wp_walk using g_p_new_nodes
  refine ⟨a, rfl, ha, na, ?_⟩
  wp_walk using cu2_p_new_nodes
  refine ⟨b, rfl, hb, nb, ?_⟩
  wp_walk using cu1_p_new_nodes
  have hl := preT_len b
  have em : ((preT b).map kvT).map (fun kv : Key × D => kD kv.1) = (preT b).map fun n => .int (rootT n) := by rw [List.map_map]; rfl
  rw [em]
  refine lc_fp (xs := preT b) (enc := fun n => .int (rootT n)) (f := fun n => .int (rootT n)) (p := fun n => !((valD ((preT a).map kvT) (.inl (rootT n))).getD .non).eqv n.d) (fun n hn Q' P' y1 y2 => ?_) (size_of (by rw [List.length_nil]; omega)) ?_
  · have eb := keyI_get nb hn
    have sn := preT_size hn
    have on := Tt.dok (t := n) (by omega)
    wp_walk
    refine ⟨_, _, rfl, eb, ?_⟩
    rw [neT (v := (valD ((preT a).map kvT) (.inl (rootT n))).getD .non) ?hv (t := n) (by omega)]
    case hv =>
      cases ea : valD ((preT a).map kvT) (.inl (rootT n)) with
      | none => exact .inl rfl
      | some d =>
        obtain ⟨s, hs, e⟩ := List.mem_map.mp (valD_mem ea)
        have e2 := congrArg Prod.snd e
        exact .inr ⟨s, e2.symm, by have := preT_size hs; omega⟩
    wp_walk
    cases hc : ((valD ((preT a).map kvT) (.inl (rootT n))).getD .non).eqv n.d with
    | false => exact y1 (by rw [hc]; rfl)
    | true => exact y2 (by rw [hc]; rfl)
  · wp_walk
    unfold newN newK at q
    rw [List.filter_map, List.length_map] at q
    exact q
def TreeAt (K : PySem.W.Frag) (M : Mem) (a : Addr) (ns : List Int) : Prop := M a = some (.ins (He.ga K "Tree") [("node", .v (treeN ns).d)]) ∧ Cls K (He.ga K "Tree") ∧ NoAttr K (He.ga K "Tree") "node"
theorem lk_node (v : Fl) : List.lookup ("node" : PySem.Str) [(("node" : PySem.Str), v)] = some v := rfl
def trM (K : PySem.W.Frag) (M : Mem) (a : Addr) (ns : List Int) : Mem := mup M a (.ins (He.ga K "Tree") [("node", .v (treeN ns).d)])
theorem TreeAt.put {M : Mem} {a : Addr} {ns : List Int} (h : TreeAt K M a ns) (ms : List Int) : TreeAt K (trM K M a ms) a ms := ⟨mup_same, h.2⟩
theorem TreeAt.self {M : Mem} {a : Addr} {ns : List Int} (h : TreeAt K M a ns) : trM K M a ns = M := mup_self h.1
theorem tree_sz {ns : List Int} (hs : SetN ns) : (treeN ns).size ≤ 44 := by rw [tree_size]; have := hs.len; omega
theorem with_of {M : Mem} {ns : List Int} {x : Int} {Q : D → Mem → Prop} {X : Addr → Mem → Prop} (h : ns.length ≤ 44) (ho : ∀ n ∈ ns, 0 ≤ n ∧ n ≤ 999999) (x0 : 0 ≤ x) (x1 : x ≤ 999999) (q : Q (treeN (ns ++ [x])).d M) : fs_p_with_thing K [(treeN ns).d, .int x] M Q X :=
  ⟨treeN ns, x, rfl, by rw [tree_size]; omega, by rw [tree_size]; exact h, ok_iff.mpr fun y m => ho y (tree_mem.mp m), ⟨x0, x1⟩, by rw [tree_put]; exact q⟩
def fs_Tree___init__ (K : PySem.W.Frag) : FS := fun ds M Q X => ∃ a d, ds = [.ref a, d] ∧ M a = some (.ins (He.ga K "Tree") []) ∧ Cls K (He.ga K "Tree") ∧ NoAttr K (He.ga K "Tree") "node" ∧ d.da = true ∧ (isSetB d = false → X (He.ga K "NoThings") M) ∧
  ∀ ns, d = .tup (ns.map .int) → SetN ns → Q .non (trM K M a ns)
theorem mo_Tree___init__ {K : PySem.W.Frag} : MonoF (fs_Tree___init__ K) := fun _ _ _ _ _ _ h hx ⟨a, d, e, c, c2, c3, c4, q, q2⟩ => ⟨a, d, e, c, c2, c3, c4, fun z => hx _ _ (q z), fun ns z1 z2 => h _ _ (q2 ns z1 z2)⟩
def Fk_Tree (K : PySem.W.Frag) : Prop := Cls K (He.ga K "Tree") ∧ NoAttr K (He.ga K "Tree") "node"
/-- Tree.__init__ -/
def lp1_Tree___init__ (K : PySem.W.Frag) : GS := gPutF K "node" (gV 0) (gCallP (fs_p_with_thing K) (gCons (gFld K "node" (gV 0)) (gCons (gV 2) gNil)))
def cu1_Tree___init__ (K : PySem.W.Frag) : GS := gSeq (gPutF K "node" (gV 0) (gTup (gNil))) (gFor (itsD (fun ds => ds) (gV 1)) (gtN 2) (lp1_Tree___init__ K))
def g_Tree___init__ (K : PySem.W.Frag) : GS := gSeq (gDrop (gCallP (fs_p_need_set K) (gCons (gV 1) gNil))) (cu1_Tree___init__ K)
theorem h_Tree___init__ {K : PySem.W.Frag} : ∀ ds M Q X, (fs_Tree___init__ K) ds M Q X → ds.length = ([.v, .v] : List AK).length → g_Tree___init__ K { nx := fun _ M' => Q .non M', rt := Q } (entry 3 [.v, .v] ds X) M := by
  rintro ds M Q X ⟨a, d, rfl, ma, hc, hn, hd, q, q2⟩ -
  wp_walk using g_Tree___init__
  refine ⟨d, rfl, hd, fun h => ?_, q⟩
  obtain ⟨ns, rfl, hs⟩ := isSetB_iff.mp h
  have q3 := q2 ns rfl hs
  wp_walk using cu1_Tree___init__, ma, hc, hn
  have e0 : mup M a (.ins (He.ga K "Tree") (putFl "node" (.v (.tup [])) [])) = trM K M a [] := rfl
  refine ⟨by show 0 < 1000; decide, ?_⟩
  rw [e0]
  refine loop_mp (enc := D.int) (fun (is : List Int) r M' => ∃ (js : List Int) (x2 : Sl), js ++ is = ns ∧ M' = trM K M a js ∧ r = ⟨[.v (.ref a), .v (.tup (ns.map .int)), x2], X⟩) ?_ ?_ ns _ _ ⟨[], _, rfl, rfl, rfl⟩
  · rintro r M' ⟨js, x2, e, rfl, rfl⟩
    rw [List.append_nil] at e
    subst e
    exact q3
  · rintro x is r M' ⟨js, x2, e, rfl, rfl⟩ N hN
    have mx : x ∈ ns := by rw [← e]; simp
    have hl : js.length ≤ 44 := by have := hs.len; rw [← e, List.length_append] at this; omega
    have hr := hs.rng x mx
    have m1 : trM K M a js a = some (.ins (He.ga K "Tree") [("node", .v (treeN js).d)]) := mup_same
    wp_walk using lp1_Tree___init__, m1, hc, hn, lk_node
    refine with_of hl (fun n hn => hs.rng n (by rw [← e]; simp [hn])) hr.1 hr.2 ?_
    wp_walk using m1, hc, hn
    refine ⟨by show 1 < 1000; decide, hN _ _ ⟨js ++ [x], _, by rw [← e]; simp, ?_, rfl⟩⟩
    show mup (trM K M a js) a _ = _
    unfold trM
    rw [mup_mup]
    rfl
def fs_Tree_form (K : PySem.W.Frag) : FS := fun ds M Q _ => ∃ a ns, ds = [.ref a] ∧ TreeAt K M a ns ∧ Q (treeN ns).d M
theorem mo_Tree_form {K : PySem.W.Frag} : MonoF (fs_Tree_form K) := fun _ _ _ _ _ _ h _ ⟨a, ns, e, c, q⟩ => ⟨a, ns, e, c, h _ _ q⟩
/-- Tree.form -/
def g_Tree_form (K : PySem.W.Frag) : GS := gRet (gFld K "node" (gV 0))
theorem h_Tree_form {K : PySem.W.Frag} : ∀ ds M Q X, (fs_Tree_form K) ds M Q X → ds.length = ([.v] : List AK).length → g_Tree_form K { nx := fun _ M' => Q .non M', rt := Q } (entry 1 [.v] ds X) M := by
  rintro ds M Q X ⟨a, ns, rfl, ⟨ma, hc, hn⟩, q⟩ -
  wp_walk using g_Tree_form, ma, hc, hn, lk_node
  exact q
/-- the steps of a deed -/
def movT (w : W5) (ns : List Int) (x : Int) : Int := match w with
  | .put => if x ∈ ns then 0 else (newN (treeN ns) (treeN (ns ++ [x])) : Nat)
  | .take => if x ∈ ns then (newN (treeN ns) (treeN (ns.filter fun n => !decide (n = x))) : Nat) else 0
  | _ => 0
def lookT (ns : List Int) (x : Int) : Int := 1 + ((wayT (treeN ns) x).length : Nat)
def stpT (w : W5) (ns : List Int) (x : Int) : Int := lookT ns x + movT w ns x
theorem way_nd : ∀ {t : Tt} {y : Int} {s : Tt}, s ∈ wayT t y → ∃ x l r, s = .nd x l r
  | .nil, y, s, h => by cases h
  | .nd x l r, y, s, h => by
    unfold wayT at h
    rcases List.mem_cons.mp h with rfl | h
    · exact ⟨x, l, r, rfl⟩
    · split at h
      · cases h
      · split at h
        · exact way_nd h
        · exact way_nd h
def fs_Tree_looked (K : PySem.W.Frag) : FS := fun ds M Q X => ∃ a ns d, ds = [.ref a, d] ∧ TreeAt K M a ns ∧ SetN ns ∧ d.da = true ∧ (isThing d = false → X (He.ga K "NoDeed") M) ∧ ∀ x, d = .int x → 0 ≤ x → x ≤ 999999 → Q (.tup [.bl (decide (x ∈ ns)), .int (lookT ns x)]) M
theorem mo_Tree_looked {K : PySem.W.Frag} : MonoF (fs_Tree_looked K) := fun _ _ _ _ _ _ h hx ⟨a, ns, d, e, c, c2, c3, q, q2⟩ => ⟨a, ns, d, e, c, c2, c3, fun z => hx _ _ (q z), fun x z1 z2 z3 => h _ _ (q2 x z1 z2 z3)⟩
/-- Tree.looked -/
def cu1_Tree_looked (K : PySem.W.Frag) : GS := gRet (gTup (gCons (gAndV (g2 (goEqE true) (gV 2) (gLst (gNil))) (g2 goEqA (g2 goIx (g2 goIx (gV 2) (g1 guNeg (gC (.int 1)))) (gC (.int 0))) (gV 1))) (gCons (g2 goAdd (gC (.int 1)) (gCa gcLen (gCons (gV 2) gNil))) gNil)))
def cu2_Tree_looked (K : PySem.W.Frag) : GS := gSeq (gSet 2 (gCallP (fs_p_way_of K) (gCons (gFld K "node" (gV 0)) (gCons (gV 1) gNil)))) (cu1_Tree_looked K)
def g_Tree_looked (K : PySem.W.Frag) : GS := gSeq (gDrop (gCallP (fs_p_need_member K) (gCons (gV 1) gNil))) (cu2_Tree_looked K)
theorem h_Tree_looked {K : PySem.W.Frag} : ∀ ds M Q X, (fs_Tree_looked K) ds M Q X → ds.length = ([.v, .v] : List AK).length → g_Tree_looked K { nx := fun _ M' => Q .non M', rt := Q } (entry 3 [.v, .v] ds X) M := by
  rintro ds M Q X ⟨a, ns, d, rfl, ⟨ma, hc, hn⟩, hs, hd, q, q2⟩ -
  wp_walk using g_Tree_looked
  refine ⟨d, rfl, hd, fun h => ?_, q⟩
  obtain ⟨x, rfl, x0, x1⟩ := isThing_int h
  have q3 := q2 x rfl x0 x1
  unfold lookT at q3
  wp_walk using cu2_Tree_looked, ma, hc, hn, lk_node
  refine ⟨treeN ns, x, rfl, tree_sz hs, ?_⟩
  obtain ⟨w1, w2⟩ := way_last (y := x) (tree_wf hs.nd)
  rw [tree_mem] at w2
  rcases List.eq_nil_or_concat (wayT (treeN ns) x) with ew | ⟨ys, y, ew⟩
  · have et := w1 ew
    have hx : x ∉ ns := fun z => by
      have := tree_mem.mpr z
      rw [et] at this
      exact this
    rw [ew] at q3 ⊢
    rw [decide_eq_false hx] at q3
    wp_walk using cu1_Tree_looked
    exact q3
  · rw [List.concat_eq_append] at ew
    have hy := w2 y (by rw [ew]; simp)
    rw [ew] at q3 ⊢
    wp_walk using cu1_Tree_looked
    obtain ⟨z, l, r, rfl⟩ := way_nd (t := treeN ns) (y := x) (s := y) (by rw [ew]; simp)
    rw [if_neg (by simp)]
    wp_walk using Tt.d, at_0
    have ez : decide (z = x) = decide (x ∈ ns) := decide_eq_decide.mpr hy
    rw [ez]
    rw [List.length_append] at q3
    exact q3
def treeF (K : PySem.W.Frag) (w : W5) : FS := fun ds M Q X => ∃ a ns d, ds = [.ref a, d] ∧ TreeAt K M a ns ∧ SetN ns ∧ d.da = true ∧ (isThing d = false → X (He.ga K "NoDeed") M) ∧
  ∀ x, d = .int x → 0 ≤ x → x ≤ 999999 → (w = .put ∧ x ∉ ns ∧ ns.length = 40 → X (He.ga K "TooMany") M) ∧ (¬ (w = .put ∧ x ∉ ns ∧ ns.length = 40) → Q (.tup [.int (telS w ns x), .int (stpT w ns x)]) (trM K M a (aftS w ns x)))
theorem treeF_mono {K : PySem.W.Frag} {w : W5} : MonoF (treeF K w) := fun _ _ _ _ _ _ h hx ⟨a, ns, d, e, c, c2, c3, q, q2⟩ => ⟨a, ns, d, e, c, c2, c3, fun z => hx _ _ (q z), fun x e h0 h1 => ⟨fun z => hx _ _ ((q2 x e h0 h1).1 z), fun z => h _ _ ((q2 x e h0 h1).2 z)⟩⟩
def fs_Tree_has (K : PySem.W.Frag) : FS := treeF K .has
def fs_Tree_change (K : PySem.W.Frag) : FS := fun ds M Q _ => ∃ a ns ms, ds = [.ref a, (treeN ms).d] ∧ TreeAt K M a ns ∧ ns.Nodup ∧ ms.Nodup ∧ ns.length ≤ 44 ∧ ms.length ≤ 44 ∧ Q (.int (newN (treeN ns) (treeN ms) : Nat)) (trM K M a ms)
theorem mo_Tree_change {K : PySem.W.Frag} : MonoF (fs_Tree_change K) := fun _ _ _ _ _ _ h _ ⟨a, ns, ms, e, c, c2, c3, c4, c5, q⟩ => ⟨a, ns, ms, e, c, c2, c3, c4, c5, h _ _ q⟩
/-- Tree.change -/
def cu1_Tree_change (K : PySem.W.Frag) : GS := gSeq (gPutF K "node" (gV 0) (gV 1)) (gRet (gV 2))
def g_Tree_change (K : PySem.W.Frag) : GS := gSeq (gSet 2 (gCallP (fs_p_new_nodes K) (gCons (gFld K "node" (gV 0)) (gCons (gV 1) gNil)))) (cu1_Tree_change K)
theorem h_Tree_change {K : PySem.W.Frag} : ∀ ds M Q X, (fs_Tree_change K) ds M Q X → ds.length = ([.v, .v] : List AK).length → g_Tree_change K { nx := fun _ M' => Q .non M', rt := Q } (entry 3 [.v, .v] ds X) M := by
  rintro ds M Q X ⟨a, ns, ms, rfl, ⟨ma, hc, hn⟩, nn, nm, ln, lm, q⟩ -
  wp_walk using g_Tree_change, ma, hc, hn, lk_node
  refine ⟨treeN ns, treeN ms, rfl, ⟨by rw [tree_size]; exact ln, pre_nd nn⟩, ⟨by rw [tree_size]; exact lm, pre_nd nm⟩, ?_⟩
  wp_walk using cu1_Tree_change, ma, hc, hn
  exact ⟨by show 1 < 1000; decide, q⟩
def fs_Tree_put_6 (K : PySem.W.Frag) : FS := treeF K .put
theorem mo_Tree_put_6 {K : PySem.W.Frag} : MonoF (fs_Tree_put_6 K) := treeF_mono
/-- Tree.put -/
def cu1_Tree_put_6 (K : PySem.W.Frag) : GS := gRet (gTup (gCons (gC (.int 1)) (gCons (g2 goAdd (gV 3) (gMeth "change" [(He.ga K "Tree", fs_Tree_change K)] (gV 0) (gCons (gCallP (fs_p_with_thing K) (gCons (gFld K "node" (gV 0)) (gCons (gV 1) gNil))) gNil))) gNil)))
def af1_Tree_put_6 (K : PySem.W.Frag) : GS := gSeq (gDrop (gCallP (fs_p_need_place_d K) (gCons (gCallP (fs_p_nodes K) (gCons (gFld K "node" (gV 0)) gNil)) gNil))) (cu1_Tree_put_6 K)
def cu2_Tree_put_6 (K : PySem.W.Frag) : GS := gSeq (gIfS (gTru (gV 2)) (gRet (gTup (gCons (gC (.int 0)) (gCons (gV 3) gNil)))) (gNext)) (af1_Tree_put_6 K)
def g_Tree_put_6 (K : PySem.W.Frag) : GS := gSeq (gAsg (gMeth "looked" [(He.ga K "Tree", fs_Tree_looked K)] (gV 0) (gCons (gV 1) gNil)) (gtTup (gtCons (gtN 2) (gtCons (gtN 3) gtNil)) 2)) (cu2_Tree_put_6 K)
theorem h_Tree_put_6 {K : PySem.W.Frag} : ∀ ds M Q X, (fs_Tree_put_6 K) ds M Q X → ds.length = ([.v, .v] : List AK).length → g_Tree_put_6 K { nx := fun _ M' => Q .non M', rt := Q } (entry 4 [.v, .v] ds X) M := by
  rintro ds M Q X ⟨a, ns, d, rfl, hh, hs, hd, q, q2⟩ -
  obtain ⟨ma, hc, hn⟩ := id hh
  wp_walk using g_Tree_put_6, ma
  refine ⟨rfl, _, List.mem_cons_self .., a, ns, d, rfl, hh, hs, hd, q, fun x e x0 x1 => ?_⟩
  subst e
  obtain ⟨q3, q4⟩ := q2 x rfl x0 x1
  wp_walk using cu2_Tree_put_6
  by_cases h : x ∈ ns
  · have q5 := q4 fun z => z.2.1 h
    have e1 : aftS .put ns x = ns := if_pos h
    have e2 : telS .put ns x = 0 := if_pos h
    have e3 : stpT .put ns x = lookT ns x := by show _ + (if _ then _ else _) = _; rw [if_pos h]; exact Int.add_zero _
    rw [e1, hh.self, e2, e3] at q5
    rw [if_pos (by simpa using h)]
    exact q5
  · have e1 : aftS .put ns x = ns ++ [x] := if_neg h
    have e2 : telS .put ns x = 1 := if_neg h
    have e3 : stpT .put ns x = lookT ns x + (newN (treeN ns) (treeN (ns ++ [x])) : Nat) := by show _ + (if _ then _ else _) = _; rw [if_neg h]
    rw [e1, e2, e3] at q4
    rw [if_neg (by simpa using h)]
    have hl := hs.len
    wp_walk using af1_Tree_put_6, ma, hc, hn, lk_node
    refine ⟨treeN ns, rfl, tree_sz hs, pre_nd hs.nd, ?_⟩
    have hlen : ((preT (treeN ns)).map kvT).length = ns.length := by rw [List.length_map, preT_len, tree_size]
    refine ⟨_, rfl, fun z => ?_, fun z => q3 ⟨rfl, h, by rw [hlen] at z; exact z⟩⟩
    rw [hlen] at z
    wp_walk using cu1_Tree_put_6, ma, hc, hn, lk_node
    refine ⟨rfl, _, List.mem_cons_self .., ?_⟩
    refine with_of (by omega) hs.rng x0 x1 ?_
    wp_walk
    have hnd : (ns ++ [x]).Nodup := List.nodup_append.mpr ⟨hs.nd, by simp, fun u hu v hv => by
      rw [List.mem_singleton] at hv
      subst hv
      exact fun e => h (e ▸ hu)⟩
    refine ⟨a, ns, ns ++ [x], rfl, hh, hs.nd, hnd, by omega, by rw [List.length_append]; show ns.length + 1 ≤ 44; omega, ?_⟩
    exact q4 fun y => z y.2.2
def fs_Tree_take (K : PySem.W.Frag) : FS := treeF K .take
theorem mo_Tree_take {K : PySem.W.Frag} : MonoF (fs_Tree_take K) := treeF_mono
/-- Tree.take -/
def af1_Tree_take (K : PySem.W.Frag) : GS := gRet (gTup (gCons (gC (.int 1)) (gCons (g2 goAdd (gV 3) (gMeth "change" [(He.ga K "Tree", fs_Tree_change K)] (gV 0) (gCons (gCallP (fs_p_without K) (gCons (gFld K "node" (gV 0)) (gCons (gV 1) gNil))) gNil))) gNil)))
def cu1_Tree_take (K : PySem.W.Frag) : GS := gSeq (gIfS (gNot (gTru (gV 2))) (gRet (gTup (gCons (gC (.int 0)) (gCons (gV 3) gNil)))) (gNext)) (af1_Tree_take K)
def g_Tree_take (K : PySem.W.Frag) : GS := gSeq (gAsg (gMeth "looked" [(He.ga K "Tree", fs_Tree_looked K)] (gV 0) (gCons (gV 1) gNil)) (gtTup (gtCons (gtN 2) (gtCons (gtN 3) gtNil)) 2)) (cu1_Tree_take K)
theorem h_Tree_take {K : PySem.W.Frag} : ∀ ds M Q X, (fs_Tree_take K) ds M Q X → ds.length = ([.v, .v] : List AK).length → g_Tree_take K { nx := fun _ M' => Q .non M', rt := Q } (entry 4 [.v, .v] ds X) M := by
  rintro ds M Q X ⟨a, ns, d, rfl, hh, hs, hd, q, q2⟩ -
  obtain ⟨ma, hc, hn⟩ := id hh
  wp_walk using g_Tree_take, ma
  refine ⟨rfl, _, List.mem_cons_self .., a, ns, d, rfl, hh, hs, hd, q, fun x e x0 x1 => ?_⟩
  subst e
  have q4 := (q2 x rfl x0 x1).2 (fun z => by cases z.1)
  have e0 : aftS .take ns x = ns.filter fun n => !decide (n = x) := rfl
  wp_walk using cu1_Tree_take
  by_cases h : x ∈ ns
  · have e2 : telS .take ns x = 1 := if_pos h
    have e3 : stpT .take ns x = lookT ns x + (newN (treeN ns) (treeN (ns.filter fun n => !decide (n = x))) : Nat) := by show _ + (if _ then _ else _) = _; rw [if_pos h]
    rw [e0, e2, e3] at q4
    rw [if_pos (by simpa using h)]
    have hl := hs.len
    have hf : (ns.filter fun n => !decide (n = x)).length ≤ ns.length := List.length_filter_le ..
    wp_walk using af1_Tree_take, ma, hc, hn, lk_node
    refine ⟨rfl, _, List.mem_cons_self .., ?_⟩
    refine ⟨treeN ns, x, rfl, by rw [tree_size]; omega, tree_sz hs, tree_ok hs, (fnd_iff (tree_wf hs.nd)).mpr (tree_mem.mpr h), ?_⟩
    rw [tree_take hs.nd]
    wp_walk
    exact ⟨a, ns, _, rfl, hh, hs.nd, hs.nd.sublist List.filter_sublist, by omega, by omega, q4⟩
  · have e1 : aftS .take ns x = ns := filter_absent h
    have e2 : telS .take ns x = 0 := if_neg h
    have e3 : stpT .take ns x = lookT ns x := by show _ + (if _ then _ else _) = _; rw [if_neg h]; exact Int.add_zero _
    rw [e1, hh.self, e2, e3] at q4
    rw [if_neg (by simpa using h)]
    exact q4
def fs_Tree_next_from (K : PySem.W.Frag) : FS := treeF K .next
def fs_Tree_rank (K : PySem.W.Frag) : FS := treeF K .rank
end
section
variable {K : PySem.W.Frag}
inductive KB where
  | ks (k : KS) | pails | tree
def KB.C : KB → PySem.Str
  | .ks k => k.C
  | .pails => "Pails"
  | .tree => "Tree"
/-- what a pails' shelf stands in -/
def pailFp (a l : Addr) (ps : List (Addr × Addr)) : List Addr := a :: l :: ps.flatMap fun p => [p.1, p.2]
/-- a shelf of things, and where it stands -/
def BoxAt (K : PySem.W.Frag) : KB → Mem → Addr → List Addr → List Int → Prop
  | .ks k, M, a, fp, ns => ∃ l, fp = [a, l] ∧ KAt K k M a l ns
  | .pails, M, a, fp, ns => ∃ l ps, fp = pailFp a l ps ∧ PailsAt K M a l ps ns
  | .tree, M, a, fp, ns => fp = [a] ∧ TreeAt K M a ns
theorem BoxAt.frame {k : KB} {M M' : Mem} {a : Addr} {fp : List Addr} {ns : List Int} (h : BoxAt K k M a fp ns) (e : ∀ b ∈ fp, M' b = M b) : BoxAt K k M' a fp ns := by
  cases k with
  | ks k =>
    obtain ⟨l, rfl, h⟩ := h
    exact ⟨l, rfl, h.frame (e a (by simp)) (e l (by simp))⟩
  | pails =>
    obtain ⟨l, ps, rfl, ⟨h1, h2, h3, h4⟩, h8, hn, hp⟩ := h
    refine ⟨l, ps, rfl, ⟨by rw [e a (by simp [pailFp])]; exact h1, by rw [e l (by simp [pailFp])]; exact h2, h3, h4⟩, h8, hn, fun i p ep => ?_⟩
    have hm := List.mem_of_getElem? ep
    obtain ⟨g1, g2, g3, g4⟩ := hp i p ep
    exact ⟨by rw [e p.1 (by simp only [pailFp, List.mem_cons, List.mem_flatMap]; exact .inr (.inr ⟨p, hm, by simp⟩))]; exact g1, by rw [e p.2 (by simp only [pailFp, List.mem_cons, List.mem_flatMap]; exact .inr (.inr ⟨p, hm, by simp⟩))]; exact g2, g3, g4⟩
  | tree =>
    obtain ⟨rfl, h1, h2⟩ := h
    exact ⟨rfl, by rw [e a (by simp)]; exact h1, h2⟩
theorem BoxAt.there {k : KB} {M : Mem} {a : Addr} {fp : List Addr} {ns : List Int} (h : BoxAt K k M a fp ns) : ∀ b ∈ fp, M b ≠ none ∧ M b ≠ some .st := by
  cases k with
  | ks k =>
    obtain ⟨l, rfl, h⟩ := h
    intro b hb
    simp only [List.mem_cons, List.not_mem_nil, or_false] at hb
    rcases hb with rfl | rfl
    · rw [h.1]; exact ⟨fun z => (nomatch z), fun z => (nomatch z)⟩
    · rw [h.2.1]; exact ⟨fun z => (nomatch z), fun z => (nomatch z)⟩
  | pails =>
    obtain ⟨l, ps, rfl, ⟨h1, h2, h3, h4⟩, h8, hn, hp⟩ := h
    intro b hb
    simp only [pailFp, List.mem_cons, List.mem_flatMap, List.not_mem_nil, or_false] at hb
    rcases hb with rfl | rfl | ⟨p, hm, hb⟩
    · rw [h1]; exact ⟨fun z => (nomatch z), fun z => (nomatch z)⟩
    · rw [h2]; exact ⟨fun z => (nomatch z), fun z => (nomatch z)⟩
    · obtain ⟨i, hi, ep⟩ := List.mem_iff_getElem.mp hm
      obtain ⟨g1, g2, g3, g4⟩ := hp i p (by rw [List.getElem?_eq_getElem hi, ep])
      rcases hb with rfl | rfl
      · rw [g1]; exact ⟨fun z => (nomatch z), fun z => (nomatch z)⟩
      · rw [g2]; exact ⟨fun z => (nomatch z), fun z => (nomatch z)⟩
  | tree =>
    obtain ⟨rfl, h1, h2⟩ := h
    intro b hb
    simp only [List.mem_cons, List.not_mem_nil, or_false] at hb
    subst hb
    rw [h1]
    exact ⟨fun z => (nomatch z), fun z => (nomatch z)⟩
/-- its own object -/
theorem BoxAt.ins {k : KB} {M : Mem} {a : Addr} {fp : List Addr} {ns : List Int} (h : BoxAt K k M a fp ns) : ∃ fl, M a = some (.ins (He.ga K k.C) fl) ∧ ∀ m ∈ (["put", "take", "has", "next_from", "rank", "form"] : List PySem.Str), fl.lookup m = none := by
  have go : ∀ (f : PySem.Str) (v : Fl), f ∈ (["kept", "pails", "node"] : List PySem.Str) → ∀ m ∈ (["put", "take", "has", "next_from", "rank", "form"] : List PySem.Str), List.lookup m [(f, v)] = none := fun f v hf m hm => by
    simp only [List.mem_cons, List.not_mem_nil, or_false] at hf hm
    rcases hf with rfl | rfl | rfl <;> rcases hm with rfl | rfl | rfl | rfl | rfl | rfl <;> rfl
  cases k with
  | ks k =>
    obtain ⟨l, rfl, h⟩ := h
    exact ⟨_, h.1, go _ _ (by simp)⟩
  | pails =>
    obtain ⟨l, ps, rfl, ⟨h1, -⟩, -⟩ := h
    exact ⟨_, h1, go _ _ (by simp)⟩
  | tree =>
    obtain ⟨rfl, h1, h2⟩ := h
    exact ⟨_, h1, go _ _ (by simp)⟩
def stpB : KB → W5 → List Int → Int → Int
  | .ks k, w, ns, x => stpA k w ns x
  | .pails, w, ns, x => stpP w ns x
  | .tree, w, ns, x => stpT w ns x
def frmB : KB → List Int → D
  | .ks k, ns => frmA k ns
  | .pails, ns => frmP ns
  | .tree, ns => (treeN ns).d
def fsB (K : PySem.W.Frag) : KB → W5 → FS
  | .ks k, w => fsW K k w
  | .pails, .put => fs_Pails_put_6 K
  | .pails, .take => fs_Pails_take_11 K
  | .pails, .has => fs_Pails_has_4 K
  | .pails, .next => fs_Pails_next_from K
  | .pails, .rank => fs_Pails_rank K
  | .tree, .put => fs_Tree_put_6 K
  | .tree, .take => fs_Tree_take K
  | .tree, .has => fs_Tree_has K
  | .tree, .next => fs_Tree_next_from K
  | .tree, .rank => fs_Tree_rank K
def fsBForm (K : PySem.W.Frag) : KB → FS
  | .ks k => fsForm K k
  | .pails => fs_Pails_form_6 K
  | .tree => fs_Tree_form K
/-- the memory behind a deed: else as it was -/
def Off (fp : List Addr) (M M' : Mem) : Prop := ∀ b, b ∉ fp → M' b = M b
theorem Off.refl {fp : List Addr} {M : Mem} : Off fp M M := fun _ _ => rfl
theorem Off.keep {fp : List Addr} {M M' : Mem} (h : Off fp M M') : Keep fp M M' := fun b _ n => h b n
def DeedB (K : PySem.W.Frag) (k : KB) (w : W5) (M : Mem) (a : Addr) (fp : List Addr) (ns : List Int) (x : Int) (Q : D → Mem → Prop) : Prop := ∀ M', Off fp M M' → BoxAt K k M' a fp (aftS w ns x) → Q (.tup [.int (telS w ns x), .int (stpB k w ns x)]) M'
section
variable {M : Mem} {a : Addr} {fp : List Addr} {ns : List Int} {d : D} {Q : D → Mem → Prop} {X : Addr → Mem → Prop} {k : KB}
theorem askB (w : W5) (h : BoxAt K k M a fp ns) (hs : SetN ns) (hd : d.da = true) (q1 : isThing d = false → X (He.ga K "NoDeed") M)
    (q2 : ∀ x, d = .int x → thingN x → (w = .put ∧ x ∉ ns ∧ ns.length = 40 → X (He.ga K "TooMany") M) ∧ (¬ (w = .put ∧ x ∉ ns ∧ ns.length = 40) → DeedB K k w M a fp ns x Q)) : fsB K k w [.ref a, d] M Q X := by
  cases k with
  | ks k =>
    obtain ⟨l, rfl, h⟩ := h
    refine ask_of w h hs hd q1 fun x e t => ⟨(q2 x e t).1, fun z M' hM h' => (q2 x e t).2 z M' (fun b hb => ?_) ⟨l, rfl, h'⟩⟩
    rcases hM with rfl | ⟨o, rfl⟩
    · rfl
    · exact mup_ne fun e => hb (by rw [e]; simp)
  | pails =>
    obtain ⟨l, ps, rfl, h⟩ := h
    have go : pailF K w [.ref a, d] M Q X := ⟨a, l, ps, ns, d, rfl, h, hs, hd, q1, fun x e x0 x1 => ⟨(q2 x e ⟨x0, x1⟩).1, fun z M' o h' => (q2 x e ⟨x0, x1⟩).2 z M' (fun b hb => o b fun p hp e => hb (by
      rw [e]
      simp only [pailFp, List.mem_cons, List.mem_flatMap]
      exact .inr (.inr ⟨p, hp, by simp⟩))) ⟨l, ps, rfl, h'⟩⟩⟩
    cases w <;> exact go
  | tree =>
    obtain ⟨rfl, h⟩ := h
    have go : treeF K w [.ref a, d] M Q X := ⟨a, ns, d, rfl, h, hs, hd, q1, fun x e x0 x1 => ⟨(q2 x e ⟨x0, x1⟩).1, fun z => (q2 x e ⟨x0, x1⟩).2 z _ (fun b hb => mup_ne fun e => hb (by rw [e]; simp)) ⟨rfl, h.put _⟩⟩⟩
    cases w <;> exact go
theorem formB (h : BoxAt K k M a fp ns) (hs : SetN ns) (q : Q (frmB k ns) M) : fsBForm K k [.ref a] M Q X := by
  cases k with
  | ks k =>
    obtain ⟨l, rfl, h⟩ := h
    exact form_of h hs q
  | pails =>
    obtain ⟨l, ps, rfl, h⟩ := h
    exact ⟨a, l, ps, ns, rfl, h, q⟩
  | tree =>
    obtain ⟨rfl, h⟩ := h
    exact ⟨a, ns, rfl, h, q⟩
def fsBInit (K : PySem.W.Frag) : KB → FS
  | .ks k => fsInit K k
  | .pails => fs_Pails___init__ K
  | .tree => fs_Tree___init__ K
def FkB (K : PySem.W.Frag) : KB → Prop
  | .ks k => FkA K k
  | .pails => Fk_Pails K
  | .tree => Fk_Tree K
/-- what is there stays -/
def Grow (M M' : Mem) : Prop := ∀ b, M b ≠ none → M' b = M b
theorem makeB (k : KB) (hd : d.da = true) (q1 : isSetB d = false → ∀ y o, M y = none → X (He.ga K "NoThings") (mup M y o))
    (q2 : ∀ ns, d = .tup (ns.map .int) → SetN ns → ∀ y fp M', (∀ b ∈ fp, M b = none) → y ∈ fp → Grow M M' → BoxAt K k M' y fp ns → Q (.ref y) M') :
    FkB K k → ∀ y, M y = none → fsBInit K k [.ref y, d] (mup M y (.ins (He.ga K k.C) [])) (fun e M2 => e = .non ∧ Q (.ref y) M2) X := by
  cases k with
  | ks k => exact make_of k hd q1 fun ns e hs y l M' h1 h2 h3 h4 h5 => q2 ns e hs y [y, l] M' (by simp [h1, h2]) (by simp) h4 ⟨l, rfl, h5⟩
  | pails =>
    intro hF y ny
    refine ⟨y, d, rfl, mup_same, hF.1, hF.2, hd, fun z => q1 z y _ ny, fun ns M' l ps e hs hk h hfr => ⟨rfl, ?_⟩⟩
    have g : Grow M M' := fun b hb => by
      have hby : b ≠ y := fun e => hb (by rw [e]; exact ny)
      rw [hk b (by rw [mup_ne hby]; exact hb) hby, mup_ne hby]
    have hb : BoxAt K .pails M' y (pailFp y l ps) ns := ⟨l, ps, rfl, h⟩
    have mn : ∀ b, mup M y (.ins (He.ga K KB.pails.C) []) b = none → M b = none := fun b hb => by
      by_cases e : b = y
      · rw [e]; exact ny
      · rw [mup_ne e] at hb; exact hb
    refine q2 ns e hs y _ M' (fun b hb => ?_) (by simp [pailFp]) g hb
    simp only [pailFp, List.mem_cons, List.mem_flatMap, List.not_mem_nil, or_false] at hb
    rcases hb with rfl | rfl | ⟨p, hp, rfl | rfl⟩
    · exact ny
    · exact mn _ hfr.1
    · exact mn _ (hfr.2 p hp).1
    · exact mn _ (hfr.2 p hp).2
  | tree =>
    intro hF y ny
    refine ⟨y, d, rfl, mup_same, hF.1, hF.2, hd, fun z => q1 z y _ ny, fun ns e hs => ⟨rfl, ?_⟩⟩
    refine q2 ns e hs y [y] _ (by simp [ny]) (by simp) (fun b hb => ?_) ⟨rfl, mup_same, hF.1, hF.2⟩
    have hby : b ≠ y := fun e => hb (by rw [e]; exact ny)
    unfold trM
    rw [mup_ne hby, mup_ne hby]
end
end
local macro_rules | `(tactic| wp_walk) => `(tactic| simp only [gSeq, gSet, gRet, gRetN, gNext, gIfS, gDrop, gOwn, gApp, gExt, gForM, gLcM, gCnt, gTryV, gTryE, gxP, gxM, DL.Fr.mute, gIPut, gFrz, frz, gAsg, gPar, gPar3, gAug, gRaise, gRetM, gSetM, gMPut, gMGet, g1, g2, gC, gV, gVw, gB, gAnd, gOr, gNot, gNotV, gIf, DL.gCons, DL.gNil, DL.gTup, DL.gLst, gFl, gFd, gCa, gLenS, gPart, gNoP, gDisp, gPcons, gPnil, gtN, gtTup, gtCons, gtNil, gYes, gFor, gLc, giS, gCallP, gCallM, gScr, entry, aSls, aSl, DL.Fr.set, OM.d, wipeF, wipeS, keyD, List.length_cons, List.length_nil, List.cons_append, List.nil_append, List.append_nil, List.replicate_succ, List.replicate_zero, List.getElem?_cons_zero, List.getElem?_cons_succ, List.getElem?_nil, List.set_cons_zero, List.set_cons_succ, Nat.reduceAdd, Nat.reduceSub, if_true, if_false, ite_true, ite_false, reduceIte, Bool.false_eq_true, Bool.not_true, Bool.not_false, List.all_cons, List.all_nil, Bool.and_true, true_and, and_true, List.map_cons, List.map_nil, gIdx, ixT_ints, intsOf_map, Int.reduceToNat, Option.some.injEq, exists_eq_left', goAdd_int, goAdd_str, goAdd_tup, goAdd_lst, goAddW_int, goAddW_lst, goPlus_int, goI_int, guI_int, gcI1_int, goIx_lst, gcLen_lst, gcTupleS_lst, gcList_lst, goRevA_lst, goIx_tup, gcLen_tup, gcTupleS_tup, gcList_tup, goRevA_tup, gcTuple_lst, goIx_str, gcLen_str, gcInt_int, gcInt_bl, goMulT_tup, goMulL_lst, goIsB_bl, goIsN_non, isN_int, isN_bl, isN_str, isN_tup, isN_lst, isN_dic, isN_ref, isN_ty, isN_non, gTru_k, truK_non, truK_bl, truK_int, truK_lst, truK_tup, truK_str, gFlist_k, lstK_lst, lstK_tup, gsSl_k, slK_lst, slK_tup, slK_str, itsD_k, itsK_lst, itsK_tup, giZip_k, zipK_lst, zipK_tup, giR1_k, ran1K_nat, ran1K_int, giR2_k, ran2K_int, goLtA_int, goLtA_tup, ok_non, eqv_bl, goEq_int, goNe_int, goEq_bl, goNe_bl, gcMin_ints, gcMinT_ints, gcMax_ints, gcMaxT_ints, intsOf_mapf, blsOf_mapf, gcMin_f, gcMax_f, gcMin_2, gcMax_2, gcSum_ints, gcSum_f, gcBls_f, all_mapid, any_mapid, at_0, at_1, at_2, at_3, at_last, noOwn_nil, noOwn_1, noOwn_2, nof_n, nof_v, nof_b, nof_s, zipD_map, enumD_map, isi_non_int, isi_non_bool, isi_non_str, isi_non_tuple, isi_non_list, isi_non_dict, isi_bl_int, isi_bl_bool, isi_bl_str, isi_bl_tuple, isi_bl_list, isi_bl_dict, isi_int_int, isi_int_bool, isi_int_str, isi_int_tuple, isi_int_list, isi_int_dict, isi_str_int, isi_str_bool, isi_str_str, isi_str_tuple, isi_str_list, isi_str_dict, isi_tup_int, isi_tup_bool, isi_tup_str, isi_tup_tuple, isi_tup_list, isi_tup_dict, isi_lst_int, isi_lst_bool, isi_lst_str, isi_lst_tuple, isi_lst_list, isi_lst_dict, isi_dic_int, isi_dic_bool, isi_dic_str, isi_dic_tuple, isi_dic_list, isi_dic_dict, gcAll, gcAny, goMod, goFdiv, decide_eq_true_eq, Bool.not_eq_true', decide_eq_false_iff_not, ite_not, Bool.and_eq_true, not_false_eq_true, Bool.not_eq_true, List.map_append, Int.zero_add, List.any_cons, List.any_nil, Bool.true_and, Bool.or_false, Bool.xor_false, Bool.false_xor, Bool.true_xor, Bool.not_not, forall_const, Int.toNat_natCast, List.length_map, List.length_append, and_self, ne_eq, List.map_eq_nil_iff, not_true_eq_false, eq_self, goMulI, goSub, goPow, goLe, goGt, goGe, guNeg, gcAbs, goEq_str, goNe_str, goEq_tup, goNe_tup, goEq_lst, goNe_lst, goEq_non, goNe_non, gAndV_k, gOrV_k, gCh_k, blK_bl, ite_bf, reduceCtorEq, Int.reducePow, Int.reduceLT, Int.reduceLE, Int.reduceNeg, sz0, se0, sz1, se1, sz2, se2, sz3, se3, sz4, se4, sz5, se5, sz6, se6, sz7, se7, sz8, se8, sz9, se9, gFld, fldK_ref, gPutF, gPutFM, putFK_ref, gDrf, drfK_ref, gMApp, mlK_ref, gMPop, popK_int, gMIns, ins2K_2, insK_int, gMeth, mthK_ref, gMake, giR3, gFlR1, gFlR2, rg2K_int, gLenSet, lenSetK_lst, lenSetK_tup, gMinD, minDK_lst, giMem, giBA, gMIdx, goTab, gFsort, sortK_lst, sortK_tup])
local macro_rules | `(tactic| wp_walk using $ts,*) => `(tactic| simp only [$[$ts:term],*, gSeq, gSet, gRet, gRetN, gNext, gIfS, gDrop, gOwn, gApp, gExt, gForM, gLcM, gCnt, gTryV, gTryE, gxP, gxM, DL.Fr.mute, gIPut, gFrz, frz, gAsg, gPar, gPar3, gAug, gRaise, gRetM, gSetM, gMPut, gMGet, g1, g2, gC, gV, gVw, gB, gAnd, gOr, gNot, gNotV, gIf, DL.gCons, DL.gNil, DL.gTup, DL.gLst, gFl, gFd, gCa, gLenS, gPart, gNoP, gDisp, gPcons, gPnil, gtN, gtTup, gtCons, gtNil, gYes, gFor, gLc, giS, gCallP, gCallM, gScr, entry, aSls, aSl, DL.Fr.set, OM.d, wipeF, wipeS, keyD, List.length_cons, List.length_nil, List.cons_append, List.nil_append, List.append_nil, List.replicate_succ, List.replicate_zero, List.getElem?_cons_zero, List.getElem?_cons_succ, List.getElem?_nil, List.set_cons_zero, List.set_cons_succ, Nat.reduceAdd, Nat.reduceSub, if_true, if_false, ite_true, ite_false, reduceIte, Bool.false_eq_true, Bool.not_true, Bool.not_false, List.all_cons, List.all_nil, Bool.and_true, true_and, and_true, List.map_cons, List.map_nil, gIdx, ixT_ints, intsOf_map, Int.reduceToNat, Option.some.injEq, exists_eq_left', goAdd_int, goAdd_str, goAdd_tup, goAdd_lst, goAddW_int, goAddW_lst, goPlus_int, goI_int, guI_int, gcI1_int, goIx_lst, gcLen_lst, gcTupleS_lst, gcList_lst, goRevA_lst, goIx_tup, gcLen_tup, gcTupleS_tup, gcList_tup, goRevA_tup, gcTuple_lst, goIx_str, gcLen_str, gcInt_int, gcInt_bl, goMulT_tup, goMulL_lst, goIsB_bl, goIsN_non, isN_int, isN_bl, isN_str, isN_tup, isN_lst, isN_dic, isN_ref, isN_ty, isN_non, gTru_k, truK_non, truK_bl, truK_int, truK_lst, truK_tup, truK_str, gFlist_k, lstK_lst, lstK_tup, gsSl_k, slK_lst, slK_tup, slK_str, itsD_k, itsK_lst, itsK_tup, giZip_k, zipK_lst, zipK_tup, giR1_k, ran1K_nat, ran1K_int, giR2_k, ran2K_int, goLtA_int, goLtA_tup, ok_non, eqv_bl, goEq_int, goNe_int, goEq_bl, goNe_bl, gcMin_ints, gcMinT_ints, gcMax_ints, gcMaxT_ints, intsOf_mapf, blsOf_mapf, gcMin_f, gcMax_f, gcMin_2, gcMax_2, gcSum_ints, gcSum_f, gcBls_f, all_mapid, any_mapid, at_0, at_1, at_2, at_3, at_last, noOwn_nil, noOwn_1, noOwn_2, nof_n, nof_v, nof_b, nof_s, zipD_map, enumD_map, isi_non_int, isi_non_bool, isi_non_str, isi_non_tuple, isi_non_list, isi_non_dict, isi_bl_int, isi_bl_bool, isi_bl_str, isi_bl_tuple, isi_bl_list, isi_bl_dict, isi_int_int, isi_int_bool, isi_int_str, isi_int_tuple, isi_int_list, isi_int_dict, isi_str_int, isi_str_bool, isi_str_str, isi_str_tuple, isi_str_list, isi_str_dict, isi_tup_int, isi_tup_bool, isi_tup_str, isi_tup_tuple, isi_tup_list, isi_tup_dict, isi_lst_int, isi_lst_bool, isi_lst_str, isi_lst_tuple, isi_lst_list, isi_lst_dict, isi_dic_int, isi_dic_bool, isi_dic_str, isi_dic_tuple, isi_dic_list, isi_dic_dict, gcAll, gcAny, goMod, goFdiv, decide_eq_true_eq, Bool.not_eq_true', decide_eq_false_iff_not, ite_not, Bool.and_eq_true, not_false_eq_true, Bool.not_eq_true, List.map_append, Int.zero_add, List.any_cons, List.any_nil, Bool.true_and, Bool.or_false, Bool.xor_false, Bool.false_xor, Bool.true_xor, Bool.not_not, forall_const, Int.toNat_natCast, List.length_map, List.length_append, and_self, ne_eq, List.map_eq_nil_iff, not_true_eq_false, eq_self, goMulI, goSub, goPow, goLe, goGt, goGe, guNeg, gcAbs, goEq_str, goNe_str, goEq_tup, goNe_tup, goEq_lst, goNe_lst, goEq_non, goNe_non, gAndV_k, gOrV_k, gCh_k, blK_bl, ite_bf, reduceCtorEq, Int.reducePow, Int.reduceLT, Int.reduceLE, Int.reduceNeg, sz0, se0, sz1, se1, sz2, se2, sz3, se3, sz4, se4, sz5, se5, sz6, se6, sz7, se7, sz8, se8, sz9, se9, gFld, fldK_ref, gPutF, gPutFM, putFK_ref, gDrf, drfK_ref, gMApp, mlK_ref, gMPop, popK_int, gMIns, ins2K_2, insK_int, gMeth, mthK_ref, gMake, giR3, gFlR1, gFlR2, rg2K_int, gLenSet, lenSetK_lst, lenSetK_tup, gMinD, minDK_lst, giMem, giBA, gMIdx, goTab, gFsort, sortK_lst, sortK_tup])
section
variable {K : PySem.W.Frag}
theorem ok_lI (ns : List Int) : D.ok (.lst (ns.map .int)) = true := (ok1_lst (ok1_ints ns)).ok
end
section
variable {K : PySem.W.Frag}
def fs_l_set_4 (K : PySem.W.Frag) : FS := DrawF (fun r => ∃ b : Int, r = [.int b] ∧ 0 ≤ b ∧ b ≤ 40) fun _ d => ∃ ns : List Int, d = .lst (ns.map .int) ∧ SetN ns
theorem mo_l_set_4 {K : PySem.W.Frag} : MonoF (fs_l_set_4 K) := drawF_mono
/-- _law_set -/
def lp1_l_set_4 (K : PySem.W.Frag) : GS := gSeq (gSet 5 (gCallM (fs_l_thing K) (gCons (gV 0) (gCons (gV 2) gNil)))) (gIfS (gB (g2 (goIn true) (gV 5) (gVw 3))) (gApp 3 (gV 5)) (gNext))
def af1_l_set_4 (K : PySem.W.Frag) : GS := gFrz 3 (gRet (gV 3))
def g_l_set_4 (K : PySem.W.Frag) : GS := gSeq (gSet 2 (gCallM (fs_l_take K) (gCons (gV 0) (gCons (gC (.int 5)) gNil)))) (gSeq (gOwn 3 (gFl (gNil))) (gSeq (gFor (giR1 (gCons (gCallM (fs_l_size K) (gCons (gV 0) (gCons (gV 1) gNil))) gNil)) (gtN 4) (lp1_l_set_4 K)) (af1_l_set_4 K)))
theorem h_l_set_4 {K : PySem.W.Frag} : ∀ ds M Q X, (fs_l_set_4 K) ds M Q X → ds.length = ([.v, .v] : List AK).length → g_l_set_4 K { nx := fun _ M' => Q .non M', rt := Q } (entry 6 [.v, .v] ds X) M := by
  rintro ds M Q X ⟨a, r, rfl, ms, ⟨b, rfl, b0, b1⟩, q⟩ -
  wp_walk using g_l_set_4
  refine take_of (K := K) ms (by omega) (by omega) fun k k0 k1 => ?_
  wp_walk
  refine size_dr (K := K) ms (by omega) (by omega) fun m m0 m1 => ?_
  obtain ⟨m, rfl⟩ := Int.eq_ofNat_of_zero_le m0
  wp_walk
  refine ⟨by omega, ?_⟩
  refine loop_mp (enc := fun (i : Nat) => D.int (0 + i)) (fun (is : List Nat) r M' => M' = M ∧ ∃ (ns : List Int) (x4 x5 : Sl), ns.length + is.length ≤ 40 ∧ (∀ n ∈ ns, 0 ≤ n ∧ n ≤ 999999) ∧ ns.Nodup ∧ r = ⟨[.v (.ref a), .v (.int b), .v (.int k), .o (.lst (ns.map .int)), x4, x5], X⟩) ?_ ?_ (List.range m) _ _ ⟨rfl, [], _, _, by simp; omega, by simp, List.nodup_nil, rfl⟩
  · rintro r M' ⟨rfl, ns, x4, x5, hl, hr, hn, rfl⟩
    wp_walk using af1_l_set_4
    exact q _ ⟨ns, rfl, ⟨by simpa using hl, hr, hn⟩⟩
  · rintro i is r M' ⟨rfl, ns, x4, x5, hl, hr, hn, rfl⟩ N hN
    rw [List.length_cons] at hl
    wp_walk using lp1_l_set_4
    refine thing_dr (K := K) ms k0 fun x x0 x1 => ?_
    wp_walk using goIn_lstI
    by_cases h : x ∈ ns
    · wp_walk using h
      exact hN _ _ ⟨rfl, ns, _, _, by omega, hr, hn, rfl⟩
    · wp_walk using h
      refine ⟨size_lt (by omega), ?_⟩
      rw [show ns.map D.int ++ [.int x] = (ns ++ [x]).map D.int by rw [List.map_append]; rfl]
      refine hN _ _ ⟨rfl, ns ++ [x], _, _, by rw [List.length_append, List.length_singleton]; omega, fun n hn' => ?_, ?_, rfl⟩
      · rcases List.mem_append.mp hn' with h1 | h1
        · exact hr n h1
        · rw [List.mem_singleton.mp h1]; exact ⟨x0, x1⟩
      · refine List.nodup_append.mpr ⟨hn, by simp, fun z hz u hu e => h ?_⟩
        rw [List.mem_singleton.mp hu] at e
        rw [← e]; exact hz
def fs_l_pail_form (K : PySem.W.Frag) : FS := fun ds M Q _ => ∃ (ns : List Int), ds = [.lst (ns.map .int)] ∧ ns.length ≤ 40 ∧ Q (frmP ns) M
theorem mo_l_pail_form {K : PySem.W.Frag} : MonoF (fs_l_pail_form K) := fun _ _ _ _ _ _ h _ ⟨ns, e, c, q⟩ => ⟨ns, e, c, h _ _ q⟩
/-- _law_pail_form -/
def g_l_pail_form (K : PySem.W.Frag) : GS := gRet (gCa gcTupleS (gCons (gFd (gLc (giR1 (gCons (gC (.int 8)) gNil)) (gtN 1) (gYes) (gCa gcTupleS (gCons (gFd (gLc (itsD (fun ds => ds) (gV 0)) (gtN 2) (gB (g2 goEqA (g2 goMod (gV 2) (gC (.int 8))) (gV 1))) (gV 2) [2])) gNil)) [1])) gNil))
theorem h_l_pail_form {K : PySem.W.Frag} : ∀ ds M Q X, (fs_l_pail_form K) ds M Q X → ds.length = ([.v] : List AK).length → g_l_pail_form K { nx := fun _ M' => Q .non M', rt := Q } (entry 3 [.v] ds X) M := by
  rintro ds M Q X ⟨ns, rfl, hl, q⟩ -
  wp_walk using g_l_pail_form
  refine lc_mp (xs := List.range 8) (enc := fun (i : Nat) => D.int (0 + i)) (f := fun i => .tup ((pail ns i).map .int)) (fun i hi Q' q' => ?_) (size_of (by simp)) ?_
  · wp_walk
    refine lc_fp (enc := D.int) (f := D.int) (p := fun n => decide (n % 8 = (i : Int))) (fun n hn Q' P' y1 y2 => ?_) (size_of (by rw [List.length_nil]; omega)) ?_
    · wp_walk
      by_cases h : n % 8 = (i : Int)
      · rw [if_pos h]
        exact y1 (decide_eq_true h)
      · rw [if_neg h]
        exact y2 (decide_eq_false h)
    · rw [List.nil_append]
      exact q'
  · rw [List.nil_append]
    exact q
theorem sh_frmP {ns : List Int} (hs : SetN ns) : Sh 2 100000 (frmP ns) := by
  refine sh_tup (k := 1) (w := 2000) (fun d hd => ?_) (by rw [List.length_map, List.length_range]; decide)
  obtain ⟨i, -, rfl⟩ := List.mem_map.mp hd
  exact sh_set (hs.pail i)
end
section
theorem eqv_ok {d : D} (h : d.ok = true) : d.eqv d = true := PySem.SeqAt.eqv_refl d.py (PySem.SeqAt.canLay_of_shaped (ok_and h).2)
end
section
theorem sok_app {a b : PySem.Str} (ha : PyData.strOk a = true) (hb : PyData.strOk b = true) : PyData.strOk (a ++ b) = true := by
  show (a ++ b).cps.all (· < 0x110000) = true
  rw [show (a ++ b).cps = a.cps ++ b.cps from rfl, Array.all_append]
  exact Bool.and_eq_true_iff.mpr ⟨ha, hb⟩
theorem sok_of (s : String) : PyData.strOk (PySem.Str.ofString s) = true := by
  rw [PySem.Str.ofString_eq_toList]
  show ((s.toList.map Char.toNat).toArray).all (· < 0x110000) = true
  rw [List.all_toArray, List.all_eq_true]
  intro n hn
  obtain ⟨c, _, rfl⟩ := List.mem_map.mp hn
  have h := c.valid
  have e : c.val.toNat = c.toNat := rfl
  unfold UInt32.isValidChar Nat.isValidChar at h
  rw [decide_eq_true_eq]
  omega
theorem sok_text : ∀ (ts : List PySem.Str) (k : Nat) (acc : PySem.Str), PyData.strOk acc = true → (∀ t ∈ ts, PyData.strOk t = true) → PyData.strOk (textFrom k acc ts) = true
  | [], _, _, h, _ => h
  | t :: ts, k, acc, h, ht => sok_text ts (k + 1) _ (sok_app (sok_app h (sok_of _)) (ht t (List.mem_cons_self ..))) fun x hx => ht x (List.mem_cons_of_mem _ hx)
theorem sok_list {ts : List PySem.Str} (h : ∀ t ∈ ts, PyData.strOk t = true) : PyData.strOk (listText ts) = true := sok_app (sok_text ts 0 _ (sok_of _) h) (sok_of _)
theorem sok_join : ∀ (ts : List PySem.Str), (∀ t ∈ ts, PyData.strOk t = true) → PyData.strOk (PySem.Str.join ", " ts) = true
  | [], _ => by decide +kernel
  | [x], h => h x (List.mem_cons_self ..)
  | x :: y :: r, h => sok_app (sok_app (h x (List.mem_cons_self ..)) (sok_of _)) (sok_join (y :: r) fun t ht => h t (List.mem_cons_of_mem _ ht))
theorem sok_tup {ts : List PySem.Str} (h : ∀ t ∈ ts, PyData.strOk t = true) : PyData.strOk (tupleText ts) = true := sok_app (sok_app (sok_of _) (sok_join ts h)) (sok_of _)
mutual
/-- no text, no dict within -/
def ntx : D → Bool
  | .non | .bl _ | .int _ => true
  | .tup xs | .lst xs => ntxL xs
  | _ => false
def ntxL : List D → Bool
  | [] => true
  | d :: r => ntx d && ntxL r
end
mutual
theorem ntx_ok : ∀ (d : D), ntx d = true → PyData.strOk d.py.shown = true
  | .non, _ => sok_of _
  | .bl b, _ => by
    show PyData.strOk (if b = true then ("True" : PySem.Str) else ("False" : PySem.Str)) = true
    split
    · exact sok_of _
    · exact sok_of _
  | .int i, _ => sok_of _
  | .tup xs, h => sok_tup (ntxL_ok xs h)
  | .lst xs, h => sok_list (ntxL_ok xs h)
  | .str x, h => by cases h
  | .ty n, h => by cases h
  | .ref a, h => by cases h
  | .dic k, h => by cases h
theorem ntxL_ok : ∀ (ds : List D), ntxL ds = true → ∀ t ∈ PyData.shownAll (D.pyL ds), PyData.strOk t = true
  | [], _, t, ht => by cases ht
  | d :: ds, h, t, ht => by
    have h' : (ntx d && ntxL ds) = true := h
    rw [Bool.and_eq_true] at h'
    rcases List.mem_cons.mp (show t ∈ d.py.shown :: PyData.shownAll (D.pyL ds) from ht) with rfl | ht
    · exact ntx_ok d h'.1
    · exact ntxL_ok ds h'.2 t ht
end
theorem ok1_shown {d : D} (h : ntx d = true) : Ok1 0 (.str d.py.shown) := ⟨rfl, ntx_ok d h, Nat.le_refl _⟩
end
local macro_rules | `(tactic| wp_walk) => `(tactic| simp only [RB15, DL.Fr.mute, frz, entry, aSls, aSl, DL.Fr.set, OM.d, wipeF, wipeS, keyD, List.length_cons, List.length_nil, List.cons_append, List.nil_append, List.append_nil, List.replicate_succ, List.replicate_zero, List.getElem?_cons_zero, List.getElem?_cons_succ, List.getElem?_nil, List.set_cons_zero, List.set_cons_succ, Nat.reduceAdd, Nat.reduceSub, if_true, if_false, ite_true, ite_false, reduceIte, Bool.false_eq_true, Bool.not_true, Bool.not_false, List.all_cons, List.all_nil, Bool.and_true, true_and, and_true, List.map_cons, List.map_nil, ixT_ints, intsOf_map, Int.reduceToNat, Option.some.injEq, exists_eq_left', gTru_k, gFlist_k, gsSl_k, slK_tup, itsD_k, giZip_k, giR1_k, ran1K_nat, giR2_k, goLtA_tup, ok_non, eqv_bl, gcMin_ints, gcMinT_ints, gcMax_ints, gcMaxT_ints, intsOf_mapf, blsOf_mapf, gcMin_f, gcMax_f, gcMin_2, gcMax_2, gcSum_ints, gcSum_f, gcBls_f, all_mapid, any_mapid, at_0, at_1, at_2, at_3, at_last, noOwn_nil, noOwn_1, noOwn_2, nof_n, nof_v, nof_b, nof_s, zipD_map, enumD_map, gcAll, gcAny, goMod, goFdiv, decide_eq_true_eq, Bool.not_eq_true', decide_eq_false_iff_not, ite_not, Bool.and_eq_true, not_false_eq_true, Bool.not_eq_true, List.map_append, Int.zero_add, List.any_cons, List.any_nil, Bool.true_and, Bool.or_false, Bool.xor_false, Bool.false_xor, Bool.true_xor, Bool.not_not, forall_const, Int.toNat_natCast, List.length_map, List.length_append, and_self, ne_eq, List.map_eq_nil_iff, not_true_eq_false, eq_self, goMulI, goSub, goPow, goLe, goGt, goGe, guNeg, gcAbs, blK_bl, ite_bf, reduceCtorEq, Int.reducePow, Int.reduceLT, Int.reduceLE, Int.reduceNeg, ins2K_2, insK_int, lenSetK_lst, lenSetK_tup, minDK_lst, sortK_lst, sortK_tup, getK, dgetK, gLamT, lamS, lam1, entryL, kvD, goEqE_lst, goEqE_tup, List.isEmpty_cons, List.isEmpty_nil, gcReprA_1, gcStrA_1, goEqI_x, goAddB_ii, goAddB_bi, goAddB_ib, goSubB_ii, goSubB_bi, goSubB_ib, goMulB_ii, goMulB_bi, goMulB_ib, guNegB_i, guNegB_b, goMulS_x, gcIntS_1, giZipX_k, zipXK_ll, zipXK_tt, zipXK_tl, zipXK_lt, goInT_tup])
local macro_rules | `(tactic| wp_walk using $ts,*) => `(tactic| simp only [$[$ts:term],*, RB15, DL.Fr.mute, frz, entry, aSls, aSl, DL.Fr.set, OM.d, wipeF, wipeS, keyD, List.length_cons, List.length_nil, List.cons_append, List.nil_append, List.append_nil, List.replicate_succ, List.replicate_zero, List.getElem?_cons_zero, List.getElem?_cons_succ, List.getElem?_nil, List.set_cons_zero, List.set_cons_succ, Nat.reduceAdd, Nat.reduceSub, if_true, if_false, ite_true, ite_false, reduceIte, Bool.false_eq_true, Bool.not_true, Bool.not_false, List.all_cons, List.all_nil, Bool.and_true, true_and, and_true, List.map_cons, List.map_nil, ixT_ints, intsOf_map, Int.reduceToNat, Option.some.injEq, exists_eq_left', gTru_k, gFlist_k, gsSl_k, slK_tup, itsD_k, giZip_k, giR1_k, ran1K_nat, giR2_k, goLtA_tup, ok_non, eqv_bl, gcMin_ints, gcMinT_ints, gcMax_ints, gcMaxT_ints, intsOf_mapf, blsOf_mapf, gcMin_f, gcMax_f, gcMin_2, gcMax_2, gcSum_ints, gcSum_f, gcBls_f, all_mapid, any_mapid, at_0, at_1, at_2, at_3, at_last, noOwn_nil, noOwn_1, noOwn_2, nof_n, nof_v, nof_b, nof_s, zipD_map, enumD_map, gcAll, gcAny, goMod, goFdiv, decide_eq_true_eq, Bool.not_eq_true', decide_eq_false_iff_not, ite_not, Bool.and_eq_true, not_false_eq_true, Bool.not_eq_true, List.map_append, Int.zero_add, List.any_cons, List.any_nil, Bool.true_and, Bool.or_false, Bool.xor_false, Bool.false_xor, Bool.true_xor, Bool.not_not, forall_const, Int.toNat_natCast, List.length_map, List.length_append, and_self, ne_eq, List.map_eq_nil_iff, not_true_eq_false, eq_self, goMulI, goSub, goPow, goLe, goGt, goGe, guNeg, gcAbs, blK_bl, ite_bf, reduceCtorEq, Int.reducePow, Int.reduceLT, Int.reduceLE, Int.reduceNeg, ins2K_2, insK_int, lenSetK_lst, lenSetK_tup, minDK_lst, sortK_lst, sortK_tup, getK, dgetK, gLamT, lamS, lam1, entryL, kvD, goEqE_lst, goEqE_tup, List.isEmpty_cons, List.isEmpty_nil, gcReprA_1, gcStrA_1, goEqI_x, goAddB_ii, goAddB_bi, goAddB_ib, goSubB_ii, goSubB_bi, goSubB_ib, goMulB_ii, goMulB_bi, goMulB_ib, guNegB_i, guNegB_b, goMulS_x, gcIntS_1, giZipX_k, zipXK_ll, zipXK_tt, zipXK_tl, zipXK_lt, goInT_tup])
section
variable {K : PySem.W.Frag}
theorem mem_kb (kbs : List KB) (w : W5) {k : KB} (h : k ∈ kbs) : (He.ga K k.C, fsB K k w) ∈ kbs.map fun k => (He.ga K k.C, fsB K k w) := List.mem_map.mpr ⟨k, h, rfl⟩
theorem mem_kbF (kbs : List KB) {k : KB} (h : k ∈ kbs) : (He.ga K k.C, fsBForm K k) ∈ kbs.map fun k => (He.ga K k.C, fsBForm K k) := List.mem_map.mpr ⟨k, h, rfl⟩
/-- a box: its kind, its object, where it stands -/
abbrev Bx := KB × Addr × List Addr
def Bx.d (b : Bx) : D := .ref b.2.1
def Boxes (K : PySem.W.Frag) (M : Mem) (bs : List Bx) (ns : List Int) : Prop := ∀ b ∈ bs, BoxAt K b.1 M b.2.1 b.2.2 ns
def Apart (bs : List Bx) : Prop := bs.Pairwise fun b c => ∀ z ∈ b.2.2, z ∉ c.2.2
def fps (bs : List Bx) : List Addr := bs.flatMap fun b => b.2.2
theorem mem_fps {bs : List Bx} {z : Addr} : z ∈ fps bs ↔ ∃ b ∈ bs, z ∈ b.2.2 := List.mem_flatMap
theorem Boxes.frame {M M' : Mem} {bs : List Bx} {ns : List Int} (h : Boxes K M bs ns) (e : ∀ z ∈ fps bs, M' z = M z) : Boxes K M' bs ns := fun b hb => (h b hb).frame fun z hz => e z (mem_fps.mpr ⟨b, hb, hz⟩)
theorem Boxes.grow {M M' : Mem} {bs : List Bx} {ns : List Int} (h : Boxes K M bs ns) (g : Grow M M') : Boxes K M' bs ns := h.frame fun z hz => by
  obtain ⟨b, hb, hz⟩ := mem_fps.mp hz
  exact g z ((h b hb).there z hz).1
theorem Boxes.st {M : Mem} {bs : List Bx} {ns : List Int} (h : Boxes K M bs ns) {s : Addr} (hs : M s = some .st) : s ∉ fps bs := fun hz => by
  obtain ⟨b, hb, hz⟩ := mem_fps.mp hz
  exact ((h b hb).there s hz).2 hs
theorem Off.st {fp : List Addr} {M M' : Mem} (h : Off fp M M') {s : Addr} (hs : M s = some .st) (n : s ∉ fp) : M' s = some .st := by rw [h s n]; exact hs
theorem Off.trans {fp fp2 : List Addr} {M M' M'' : Mem} (h : Off fp M M') (h2 : Off fp2 M' M'') : Off (fp ++ fp2) M M'' := fun b n => by
  rw [List.mem_append, not_or] at n
  rw [h2 b n.2, h b n.1]
theorem Off.sub {fp fp2 : List Addr} {M M' : Mem} (h : Off fp M M') (s : ∀ z ∈ fp, z ∈ fp2) : Off fp2 M M' := fun b n => h b fun z => n (s b z)
theorem Grow.st {M M' : Mem} (h : Grow M M') {s : Addr} (hs : M s = some .st) : M' s = some .st := by rw [h s (by rw [hs]; exact fun z => nomatch z)]; exact hs
theorem Grow.refl {M : Mem} : Grow M M := fun _ _ => rfl
theorem Grow.trans {M M' M'' : Mem} (h : Grow M M') (h2 : Grow M' M'') : Grow M M'' := fun b n => by rw [h2 b (by rw [h b n]; exact n), h b n]
theorem sh_three {k w1 w2 w3 : Nat} {a b c : D} (ha : Sh k w1 a) (hb : Sh k w2 b) (hc : Sh k w3 c) : Sh (k + 1) (w1 + w2 + w3 + 3) (.tup [a, b, c]) where
  pl := by simp only [D.pl, D.plL, ha.pl, hb.pl, hc.pl]; rfl
  lay := by simp only [D.py, D.pyL, PyData.canLay0, PyData.canLayAll0, ha.lay, hb.lay, hc.lay]; rfl
  dep := by
    have h1 := ha.dep
    have h2 := hb.dep
    have h3 := hc.dep
    simp only [D.py, D.pyL, PyData.depth, PyData.depthAll]
    omega
  wt := by
    have h1 := ha.wt
    have h2 := hb.wt
    have h3 := hc.wt
    simp only [D.py, D.pyL, PyData.weight, PyData.weightAll]
    omega
  sh := by simp only [D.py, D.pyL, PyData.showable, PyData.showableAll, ha.sh, hb.sh, hc.sh]; rfl
  lv := by simp only [D.py, D.pyL, PyData.leavesShort, PyData.leavesShortAll, ha.lv, hb.lv, hc.lv]; rfl
theorem sh_nil : Sh 1 0 (.tup []) := sh_tup (k := 0) (w := 0) (fun d hd => by cases hd) (Nat.zero_le _)
theorem sh_treeK : ∀ {t : Tt} {k : Nat}, t.ok → t.size ≤ k → Sh (k + 1) (43 * t.size) t.d
  | .nil, k, _, _ => sh_nil.mono (by omega) (by simp [Tt.size])
  | .nd x l r, k, ⟨hx, hl, hr⟩, h => by
    simp only [Tt.size] at h ⊢
    obtain ⟨j, rfl⟩ : ∃ j, k = j + 1 := ⟨k - 1, by omega⟩
    have h1 : Sh (j + 1) 40 (.int x) := (sh_int (by omega)).mono (by omega) (Nat.le_refl _)
    exact (sh_three h1 (sh_treeK hl (by omega)) (sh_treeK hr (by omega))).mono (Nat.le_refl _) (by omega)
theorem sh_tree {ns : List Int} (hs : SetN ns) : Sh 45 2000 (treeN ns).d := by
  have h := tree_sz hs
  exact (sh_treeK (k := 44) (tree_ok hs) h).mono (by omega) (by omega)
theorem sh_frmB {ns : List Int} (hs : SetN ns) (k : KB) : Sh 45 100000 (frmB k ns) := by
  cases k with
  | ks k => exact (sh_frm hs k).mono (by decide) (by decide)
  | pails => exact (sh_frmP hs).mono (by decide) (by decide)
  | tree => exact (sh_tree hs).mono (by decide) (by decide)
theorem make_bx (k : KB) {M : Mem} {ns : List Int} {Q : Addr → Mem → Prop} {X : Addr → Mem → Prop} (hs : SetN ns) (q2 : ∀ y fp M', (∀ b ∈ fp, M b = none) → y ∈ fp → Grow M M' → BoxAt K k M' y fp ns → Q y M') :
    FkB K k → ∀ y, M y = none → fsBInit K k [.ref y, .tup (ns.map .int)] (mup M y (.ins (He.ga K k.C) [])) (fun e M2 => e = .non ∧ Q y M2) X := by
  have h := makeB (K := K) (M := M) (d := .tup (ns.map .int)) (X := X) (Q := fun d M' => ∃ y, d = .ref y ∧ Q y M') k (by rw [D.da_tup]; exact D.da_ints ns) (fun z => (by rw [isSetB_iff.mpr ⟨ns, rfl, hs⟩] at z; cases z)) (fun ns' e hs' y fp M' h1 h2 h3 h4 => ⟨y, rfl, q2 y fp M' h1 h2 h3 (by rw [ints_inj e]; exact h4)⟩)
  intro hF y ny
  have mo : MonoF (fsBInit K k) := by
    cases k with
    | ks k => cases k <;> first | exact mo_Heap___init__ | exact mo_Line___init__ | exact mo_Tiers___init__
    | pails => exact mo_Pails___init__
    | tree => exact mo_Tree___init__
  refine mo _ _ _ _ _ _ (fun e M2 q => ?_) (fun _ _ q => q) (h hF y ny)
  obtain ⟨e1, y', e2, q⟩ := q
  cases e2
  exact ⟨e1, q⟩
theorem make_bpails {M : Mem} {ns : List Int} {Q : Addr → Mem → Prop} {X : Addr → Mem → Prop} (hs : SetN ns) (q2 : ∀ y fp M', (∀ b ∈ fp, M b = none) → y ∈ fp → Grow M M' → BoxAt K .pails M' y fp ns → Q y M') :
    Fk_Pails K → ∀ y, M y = none → fs_Pails___init__ K [.ref y, .tup (ns.map .int)] (mup M y (.ins (He.ga K "Pails") [])) (fun e M2 => e = .non ∧ Q y M2) X := make_bx .pails hs q2
theorem make_btree {M : Mem} {ns : List Int} {Q : Addr → Mem → Prop} {X : Addr → Mem → Prop} (hs : SetN ns) (q2 : ∀ y fp M', (∀ b ∈ fp, M b = none) → y ∈ fp → Grow M M' → BoxAt K .tree M' y fp ns → Q y M') :
    Fk_Tree K → ∀ y, M y = none → fs_Tree___init__ K [.ref y, .tup (ns.map .int)] (mup M y (.ins (He.ga K "Tree") [])) (fun e M2 => e = .non ∧ Q y M2) X := make_bx .tree hs q2
/-- boxes that are made one behind the other -/
structure Made (K : PySem.W.Frag) (M M' : Mem) (bs : List Bx) (ns : List Int) : Prop where
  g : Grow M M'
  b : Boxes K M' bs ns
  ap : Apart bs
  fr : ∀ z ∈ fps bs, M z = none
theorem Made.nil {M : Mem} {ns : List Int} : Made K M M [] ns := ⟨Grow.refl, fun b hb => (by cases hb), List.Pairwise.nil, fun z hz => (by cases hz)⟩
/-- old ones stand where new ones don't -/
theorem Made.keep {M M' : Mem} {bs cs : List Bx} {ns ms : List Int} (m : Made K M M' bs ns) (h : Boxes K M cs ms) {M2 : Mem} (ho : Off (fps bs) M' M2) : Boxes K M2 cs ms := (h.grow m.g).frame fun z hz => ho z fun y => by
  obtain ⟨b, hb, hz⟩ := mem_fps.mp hz
  exact ((h b hb).there z hz).1 (m.fr z y)
theorem deep_frmB (k : KB) (ns : List Int) : (frmB k ns).deep = true := by
  cases k with
  | ks k => cases k <;> rfl
  | pails => rfl
  | tree =>
    show (treeN ns).d.deep = true
    cases treeN ns <;> rfl
theorem repr_frmB {k : KB} {ns : List Int} {M : Mem} {Q : D → Mem → Prop} (hs : SetN ns) (q : Q (.str (frmB k ns).py.shown) M) : gcRepr [frmB k ns] M Q := repr_of (sh_frmB hs _) (deep_frmB _ _) (by decide) (by decide) q
/-- asked, where nothing changes -/
theorem Off.same {k : KB} {M M' : Mem} {a : Addr} {fp : List Addr} {ns : List Int} (h : Off fp M M') (hb : BoxAt K k M' a fp ns) : BoxAt K k M' a fp ns := hb
theorem ntx_tree : ∀ t : Tt, ntx t.d = true
  | .nil => rfl
  | .nd x l r => by
    show ntxL [D.int x, l.d, r.d] = true
    simp only [ntxL, ntx_tree l, ntx_tree r]
    rfl
end
local macro_rules | `(tactic| wp_walk) => `(tactic| simp only [RB17, DL.Fr.mute, frz, entry, aSls, aSl, DL.Fr.set, OM.d, wipeF, wipeS, keyD, List.length_cons, List.length_nil, List.cons_append, List.nil_append, List.append_nil, List.replicate_succ, List.replicate_zero, List.getElem?_cons_zero, List.getElem?_cons_succ, List.getElem?_nil, List.set_cons_zero, List.set_cons_succ, Nat.reduceAdd, Nat.reduceSub, if_true, if_false, ite_true, ite_false, reduceIte, Bool.false_eq_true, Bool.not_true, Bool.not_false, List.all_cons, List.all_nil, Bool.and_true, true_and, and_true, List.map_cons, List.map_nil, ixT_ints, intsOf_map, Int.reduceToNat, Option.some.injEq, exists_eq_left', gTru_k, gFlist_k, gsSl_k, slK_tup, itsD_k, giZip_k, giR1_k, ran1K_nat, giR2_k, goLtA_tup, ok_non, eqv_bl, gcMin_ints, gcMinT_ints, gcMax_ints, gcMaxT_ints, intsOf_mapf, blsOf_mapf, gcMin_f, gcMax_f, gcMin_2, gcMax_2, gcSum_ints, gcSum_f, gcBls_f, all_mapid, any_mapid, at_0, at_1, at_2, at_3, at_last, noOwn_nil, noOwn_1, noOwn_2, nof_n, nof_v, nof_b, nof_s, zipD_map, enumD_map, gcAll, gcAny, goMod, goFdiv, decide_eq_true_eq, Bool.not_eq_true', decide_eq_false_iff_not, ite_not, Bool.and_eq_true, not_false_eq_true, Bool.not_eq_true, List.map_append, Int.zero_add, List.any_cons, List.any_nil, Bool.true_and, Bool.or_false, Bool.xor_false, Bool.false_xor, Bool.true_xor, Bool.not_not, forall_const, Int.toNat_natCast, List.length_map, List.length_append, and_self, ne_eq, List.map_eq_nil_iff, not_true_eq_false, eq_self, goMulI, goSub, goPow, goLe, goGt, goGe, guNeg, gcAbs, blK_bl, ite_bf, reduceCtorEq, Int.reducePow, Int.reduceLT, Int.reduceLE, Int.reduceNeg, ins2K_2, insK_int, lenSetK_lst, lenSetK_tup, minDK_lst, sortK_lst, sortK_tup, getK, dgetK, gLamT, lamS, lam1, entryL, kvD, goEqE_lst, goEqE_tup, List.isEmpty_cons, List.isEmpty_nil, gcReprA_1, gcStrA_1, goEqI_x, goAddB_ii, goAddB_bi, goAddB_ib, goSubB_ii, goSubB_bi, goSubB_ib, goMulB_ii, goMulB_bi, goMulB_ib, guNegB_i, guNegB_b, goMulS_x, gcIntS_1, giZipX_k, zipXK_ll, zipXK_tt, zipXK_tl, zipXK_lt, goInT_tup, gcMinP_1])
local macro_rules | `(tactic| wp_walk using $ts,*) => `(tactic| simp only [$[$ts:term],*, RB17, DL.Fr.mute, frz, entry, aSls, aSl, DL.Fr.set, OM.d, wipeF, wipeS, keyD, List.length_cons, List.length_nil, List.cons_append, List.nil_append, List.append_nil, List.replicate_succ, List.replicate_zero, List.getElem?_cons_zero, List.getElem?_cons_succ, List.getElem?_nil, List.set_cons_zero, List.set_cons_succ, Nat.reduceAdd, Nat.reduceSub, if_true, if_false, ite_true, ite_false, reduceIte, Bool.false_eq_true, Bool.not_true, Bool.not_false, List.all_cons, List.all_nil, Bool.and_true, true_and, and_true, List.map_cons, List.map_nil, ixT_ints, intsOf_map, Int.reduceToNat, Option.some.injEq, exists_eq_left', gTru_k, gFlist_k, gsSl_k, slK_tup, itsD_k, giZip_k, giR1_k, ran1K_nat, giR2_k, goLtA_tup, ok_non, eqv_bl, gcMin_ints, gcMinT_ints, gcMax_ints, gcMaxT_ints, intsOf_mapf, blsOf_mapf, gcMin_f, gcMax_f, gcMin_2, gcMax_2, gcSum_ints, gcSum_f, gcBls_f, all_mapid, any_mapid, at_0, at_1, at_2, at_3, at_last, noOwn_nil, noOwn_1, noOwn_2, nof_n, nof_v, nof_b, nof_s, zipD_map, enumD_map, gcAll, gcAny, goMod, goFdiv, decide_eq_true_eq, Bool.not_eq_true', decide_eq_false_iff_not, ite_not, Bool.and_eq_true, not_false_eq_true, Bool.not_eq_true, List.map_append, Int.zero_add, List.any_cons, List.any_nil, Bool.true_and, Bool.or_false, Bool.xor_false, Bool.false_xor, Bool.true_xor, Bool.not_not, forall_const, Int.toNat_natCast, List.length_map, List.length_append, and_self, ne_eq, List.map_eq_nil_iff, not_true_eq_false, eq_self, goMulI, goSub, goPow, goLe, goGt, goGe, guNeg, gcAbs, blK_bl, ite_bf, reduceCtorEq, Int.reducePow, Int.reduceLT, Int.reduceLE, Int.reduceNeg, ins2K_2, insK_int, lenSetK_lst, lenSetK_tup, minDK_lst, sortK_lst, sortK_tup, getK, dgetK, gLamT, lamS, lam1, entryL, kvD, goEqE_lst, goEqE_tup, List.isEmpty_cons, List.isEmpty_nil, gcReprA_1, gcStrA_1, goEqI_x, goAddB_ii, goAddB_bi, goAddB_ib, goSubB_ii, goSubB_bi, goSubB_ib, goMulB_ii, goMulB_bi, goMulB_ib, guNegB_i, guNegB_b, goMulS_x, gcIntS_1, giZipX_k, zipXK_ll, zipXK_tt, zipXK_tl, zipXK_lt, goInT_tup, gcMinP_1])
section
variable {K : PySem.W.Frag}
set_option maxHeartbeats 1000000
theorem tree_srt {ns : List Int} (hs : SetN ns) : treeN (srt ns) = treeN ns := tree_eq hs.srt.nd hs.nd fun y => srt_mem
theorem repr_tree {ns : List Int} {M : Mem} {Q : D → Mem → Prop} (hs : SetN ns) (q : Q (.str (treeN ns).d.py.shown) M) : gcRepr [(treeN ns).d] M Q := repr_frmB (k := .tree) hs q
end
section
variable {K : PySem.W.Frag}
set_option maxHeartbeats 1000000
def fs_l_turn (K : PySem.W.Frag) : FS := fun ds M Q _ => ∃ x : Int, ds = [.int x] ∧ 0 ≤ x ∧ x ≤ 999999 ∧ Q (.tup [.int (turnI x), .int x]) M
theorem mo_l_turn {K : PySem.W.Frag} : MonoF (fs_l_turn K) := fun _ _ _ _ _ _ h _ ⟨x, e, c, c2, q⟩ => ⟨x, e, c, c2, h _ _ q⟩
/-- _law_turn -/
def g_l_turn (K : PySem.W.Frag) : GS := gRet (gTup (gCons (g2 goSub (gC (.int 0)) (g2 goMod (g2 goAdd (g2 goMulI (gV 0) (gC (.int 48271))) (gC (.int 12345))) (gC (.int 65537)))) (gCons (gV 0) gNil)))
theorem h_l_turn {K : PySem.W.Frag} : ∀ ds M Q X, (fs_l_turn K) ds M Q X → ds.length = ([.v] : List AK).length → g_l_turn K { nx := fun _ M' => Q .non M', rt := Q } (entry 1 [.v] ds X) M := by
  rintro ds M Q X ⟨x, rfl, h0, h1, q⟩ -
  wp_walk using g_l_turn
  exact ⟨.inl ⟨by omega, by omega⟩, q⟩
theorem goLt_tups {ns ms : List Int} {b : Bool} {M : Mem} {Q : D → Mem → Prop} (h : HT.lexLt ns ms = b) (q : Q (.bl b) M) : goLtA (.tup (ns.map .int)) (.tup (ms.map .int)) M Q := by
  rw [goLtA_tup, h]
  exact q
def fsr_l_walked_2 (K : PySem.W.Frag) (n : Nat) : FS := fun ds M Q _ => ∃ t : Tt, ds = [t.d] ∧ t.size < n ∧ t.size ≤ 44 ∧ t.wf ∧ t.ok ∧ Q (.lst ((inT t).map .int)) M
theorem mor_l_walked_2 {K : PySem.W.Frag} : ∀ n, MonoF (fsr_l_walked_2 K n) := fun _ _ _ _ _ _ _ h _ ⟨t, e, c, c2, c3, c4, q⟩ => ⟨t, e, c, c2, c3, c4, h _ _ q⟩
theorem no_l_walked_2 {K : PySem.W.Frag} : ∀ ds M Q X, fsr_l_walked_2 K 0 ds M Q X → False := fun _ _ _ _ ⟨_, _, h, _⟩ => absurd h (Nat.not_lt_zero _)
/-- _law_walked -/
def lp1_l_walked_2 (K : PySem.W.Frag) (k : Nat) : GS := gIfS (gB (g2 goLtA (gCallP (fs_l_turn K) (gCons (gV 3) gNil)) (gCallP (fs_l_turn K) (gCons (g2 goIx (gV 0) (gC (.int 0))) gNil)))) (gRet (gC .non)) (gNext)
def af1_l_walked_2 (K : PySem.W.Frag) (k : Nat) : GS := gRet (g2 goAdd (g2 goAdd (gV 1) (gLst (gCons (g2 goIx (gV 0) (gC (.int 0))) gNil))) (gV 2))
def af2_l_walked_2 (K : PySem.W.Frag) (k : Nat) : GS := gSeq (gFor (itsD (fun ds => ds) (g2 goAdd (gV 1) (gV 2))) (gtN 3) (lp1_l_walked_2 K k)) (af1_l_walked_2 K k)
def cu1_l_walked_2 (K : PySem.W.Frag) (k : Nat) : GS := gSeq (gIfS (gOr (gB (g2 (goIsN false) (gV 1) (gC .non))) (gB (g2 (goIsN false) (gV 2) (gC .non)))) (gRet (gC .non)) (gNext)) (af2_l_walked_2 K k)
def af3_l_walked_2 (K : PySem.W.Frag) (k : Nat) : GS := gSeq (gPar 1 2 (gCons (gCallP (fsr_l_walked_2 K k) (gCons (g2 goIx (gV 0) (gC (.int 1))) gNil)) (gCons (gCallP (fsr_l_walked_2 K k) (gCons (g2 goIx (gV 0) (gC (.int 2))) gNil)) gNil))) (cu1_l_walked_2 K k)
def af4_l_walked_2 (K : PySem.W.Frag) (k : Nat) : GS := gSeq (gIfS (gOr (gNot (gTru (gCa gcIsi (gCons (gV 0) (gCons (gC (.ty "tuple")) gNil))))) (gOr (gB (g2 goNeA (gCa gcLen (gCons (gV 0) gNil)) (gC (.int 3)))) (gOr (gTru (gCa gcIsi (gCons (g2 goIx (gV 0) (gC (.int 0))) (gCons (gC (.ty "bool")) gNil)))) (gNot (gTru (gCa gcIsi (gCons (g2 goIx (gV 0) (gC (.int 0))) (gCons (gC (.ty "int")) gNil)))))))) (gRet (gC .non)) (gNext)) (af3_l_walked_2 K k)
def g_l_walked_2 (K : PySem.W.Frag) (k : Nat) : GS := gSeq (gIfS (gB (g2 (goEqE false) (gV 0) (gTup (gNil)))) (gRet (gLst (gNil))) (gNext)) (af4_l_walked_2 K k)
theorem h_l_walked_2 {K : PySem.W.Frag} : ∀ k ds M Q X, fsr_l_walked_2 K (k + 1) ds M Q X → ds.length = ([.v] : List AK).length → g_l_walked_2 K k { nx := fun _ M' => Q .non M', rt := Q } (entry 4 [.v] ds X) M := by
  rintro n ds M Q X ⟨t, rfl, hn, hz, hw, hok, q⟩ -
  cases t with
  | nil =>
    wp_walk using g_l_walked_2, Tt.d, goEqE_tup
    exact q
  | nd x l r =>
    simp only [Tt.size] at hn hz
    obtain ⟨wl, wr, bl, br⟩ := hw
    obtain ⟨hx, ol, or_⟩ := hok
    have ll := inT_len l
    have lr := inT_len r
    wp_walk using g_l_walked_2, Tt.d, goEqE_tup
    wp_walk using af4_l_walked_2, at_0
    wp_walk using af3_l_walked_2, at_1
    refine ⟨l, rfl, by omega, by omega, wl, ol, ?_⟩
    wp_walk using at_2
    refine ⟨r, rfl, by omega, by omega, wr, or_, ?_⟩
    wp_walk using cu1_l_walked_2
    wp_walk using af2_l_walked_2
    refine ⟨size_of (by omega), ?_⟩
    have em : (inT l).map D.int ++ (inT r).map D.int = (inT l ++ inT r).map .int := by rw [List.map_append]
    rw [em]
    refine loop_mp (enc := D.int) (fun (is : List Int) r' M' => M' = M ∧ (∀ y ∈ is, (0 ≤ y ∧ y ≤ 999999) ∧ upB x y = true) ∧ ∃ x3 : Sl, r' = ⟨[.v (.tup [.int x, l.d, r.d]), .v (.lst ((inT l).map .int)), .v (.lst ((inT r).map .int)), x3], X⟩) ?_ ?_ (inT l ++ inT r) _ _ ⟨rfl, fun y hy => ?_, _, rfl⟩
    · rintro r' M' ⟨rfl, -, x3, rfl⟩
      wp_walk using af1_l_walked_2, at_0
      refine ⟨size_of (by omega), size_of (by omega), ?_⟩
      have e2 : (inT l).map D.int ++ [.int x] ++ (inT r).map D.int = (inT (.nd x l r)).map .int := by simp [inT]
      first
        | (rw [e2]; exact q)
        | (rw [← e2] at q; simpa using q)
    · rintro y is r' M' ⟨rfl, hy, x3, rfl⟩ N hN
      obtain ⟨hyr, hu⟩ := hy y (List.mem_cons_self ..)
      wp_walk using lp1_l_walked_2
      refine ⟨y, rfl, hyr.1, hyr.2, ?_⟩
      wp_walk using at_0
      refine ⟨x, rfl, hx.1, hx.2, ?_⟩
      wp_walk
      have e : HT.lexLt [turnI y, y] [turnI x, x] = false := by
        rw [HT.lexLt_cons, HT.lexLt_cons]
        rw [upB_iff] at hu
        by_cases h : turnI y = turnI x
        · have h2 : x < y := by omega
          rw [if_pos h, if_neg (by omega)]
          exact decide_eq_false (by omega)
        · rw [if_neg h]
          exact decide_eq_false (by omega)
      refine goLt_tups (ns := [turnI y, y]) (ms := [turnI x, x]) e ?_
      wp_walk
      exact hN _ _ ⟨rfl, fun z hz => hy z (List.mem_cons_of_mem _ hz), _, rfl⟩
    · rcases List.mem_append.mp hy with h | h
      · have h := inT_mem.mp h
        exact ⟨ok_iff.mp ol y h, (bl y h).2⟩
      · have h := inT_mem.mp h
        exact ⟨ok_iff.mp or_ y h, (br y h).2⟩
def fs_l_walked_2 (K : PySem.W.Frag) : FS := fsr_l_walked_2 K 45
theorem erase_perm2 {α : Type} : ∀ (l : List α) (i : Nat) (h : i < l.length), (l[i] :: l.eraseIdx i).Perm l
  | [], i, h => absurd h (Nat.not_lt_zero _)
  | x :: l, 0, h => List.Perm.refl _
  | x :: l, i + 1, h => (List.Perm.swap x _ _).trans ((erase_perm2 l i (Nat.lt_of_succ_lt_succ h)).cons x)
def fs_l_order (K : PySem.W.Frag) : FS := fun ds M Q _ => ∃ (a : Addr) (ns : List Int), ds = [.ref a, .lst (ns.map .int)] ∧ M a = some .st ∧ ns.length ≤ 40 ∧ ∀ (os : List Int) M', Grow M M' → os.Perm ns → Q (.lst (os.map .int)) M'
theorem mo_l_order {K : PySem.W.Frag} : MonoF (fs_l_order K) := fun _ _ _ _ _ _ h _ ⟨a, ns, e, c, c2, q⟩ => ⟨a, ns, e, c, c2, fun os M' h1 h2 => h _ _ (q os M' h1 h2)⟩
/-- _law_order -/
def lp1_l_order (K : PySem.W.Frag) : GS := gApp 3 (gMPop (gV 2) (gCallM (fs_l_take K) (gCons (gV 0) (gCons (gCa gcLen (gCons (gDrf (gV 2)) gNil)) gNil))))
def af1_l_order (K : PySem.W.Frag) : GS := gFrz 3 (gRet (gV 3))
def g_l_order (K : PySem.W.Frag) : GS := gSeq (gSetM 2 (gFlist (gV 1))) (gSeq (gOwn 3 (gFl (gNil))) (gSeq (gWhile (gB (g2 (goEqE true) (gDrf (gV 2)) (gLst (gNil)))) (lp1_l_order K)) (af1_l_order K)))
theorem h_l_order {K : PySem.W.Frag} : ∀ ds M Q X, (fs_l_order K) ds M Q X → ds.length = ([.v, .v] : List AK).length → g_l_order K { nx := fun _ M' => Q .non M', rt := Q } (entry 4 [.v, .v] ds X) M := by
  rintro ds M Q X ⟨a, ns, rfl, ms, hlen, q⟩ -
  wp_walk using g_l_order
  intro l nl
  refine ⟨fun m r M' => ∃ (os us : List Int), M' = mup M l (.om (.lst (us.map .int))) ∧ (os ++ us).Perm ns ∧ m = us.length ∧ r = ⟨[.v (.ref a), .v (.lst (ns.map .int)), .v (.ref l), .o (.lst (os.map .int))], X⟩, ⟨_, [], ns, rfl, List.Perm.refl _, rfl, rfl⟩, ?_⟩
  rintro m r M' ⟨os, us, rfl, hp, rfl, rfl⟩
  have nal : a ≠ l := fun e => by rw [e, nl] at ms; cases ms
  have ml : ∀ o, mup M l o l = some o := fun o => mup_same
  have ms2 : ∀ o, mup M l o a = some .st := fun o => by rw [mup_ne nal]; exact ms
  have hlp := hp.length_eq
  rw [List.length_append] at hlp
  cases us with
  | nil =>
    rw [List.append_nil] at hp
    wp_walk using ml, goEqE_lst
    wp_walk using af1_l_order
    exact q os _ (fun b hb => mup_ne fun e => hb (by rw [e]; exact nl)) hp
  | cons u us =>
    wp_walk using ml, goEqE_lst, lp1_l_order
    refine take_of (K := K) (ms2 _) (by omega) (by rw [List.length_cons] at hlp; omega) fun t t0 t1 => ?_
    wp_walk using ml
    obtain ⟨i, rfl⟩ : ∃ i : Nat, t = i := ⟨t.toNat, by omega⟩
    have hi : i < (u :: us).length := by rw [List.length_cons]; omega
    have hpi := erase_perm2 _ i hi
    generalize hv : u :: us = vs at hi hpi hp hlp ⊢
    have hmap : D.int u :: us.map D.int = vs.map D.int := by rw [← hv]; rfl
    have hvl : us.length + 1 = vs.length := by rw [← hv]; rfl
    rw [hmap, List.getElem?_map, show ((i : Int)).toNat = i from Int.toNat_natCast i, List.getElem?_eq_getElem hi, hvl]
    refine ⟨⟨by omega, by omega, by omega⟩, size_lt (by omega), ?_⟩
    refine ⟨(vs.eraseIdx i).length, ?_, os ++ [vs[i]], vs.eraseIdx i, ?_, ?_, rfl, by rw [List.map_append]; rfl⟩
    · rw [List.length_eraseIdx_of_lt hi]
      omega
    · rw [mup_mup, erase_mapP]
    · refine List.Perm.trans ?_ hp
      rw [List.append_assoc]
      exact hpi.append_left os
def kb23 : List KB := [.ks .heap, .tree, .pails]
/-- a tree and pails beside each other -/
structure Two (K : PySem.W.Frag) (M : Mem) (a y z : Addr) (fz : List Addr) (ns ms : List Int) : Prop where
  mst : M a = some .st
  bt : BoxAt K .tree M y [y] ns
  bp : BoxAt K .pails M z fz ms
  ny : y ∉ fz
  na : a ≠ y
  nz : a ∉ fz
  hn : SetN ns
  hm : SetN ms
theorem Two.tree {M : Mem} {a y z : Addr} {fz : List Addr} {ns ms : List Int} {x : Int} {Q : D → Mem → Prop} {X : Addr → Mem → Prop} (t : Two K M a y z fz ns ms) (w : W5) (hx : thingN x) (hf : ¬ (w = .put ∧ x ∉ ns ∧ ns.length = 40)) (q : ∀ M', Two K M' a y z fz (aftS w ns x) ms → ∀ u s, Q (.tup [.int u, .int s]) M') : fsB K .tree w [.ref y, .int x] M Q X :=
  askB w t.bt t.hn rfl (fun z => (thing_not hx.1 hx.2 z).elim) fun v e _ => by
    cases e
    refine ⟨fun z => absurd z hf, fun _ M' o b => q M' ⟨o.st t.mst (by simp [t.na]), b, t.bp.frame fun c hc => o c fun h => ?_, t.ny, t.na, t.nz, t.hn.aft w hx.1 hx.2 fun e z => hf ⟨e, z.2, z.1⟩, t.hm⟩ _ _⟩
    rw [List.mem_singleton.mp h] at hc
    exact t.ny hc
theorem Two.pails {M : Mem} {a y z : Addr} {fz : List Addr} {ns ms : List Int} {x : Int} {Q : D → Mem → Prop} {X : Addr → Mem → Prop} (t : Two K M a y z fz ns ms) (w : W5) (hx : thingN x) (hf : ¬ (w = .put ∧ x ∉ ms ∧ ms.length = 40)) (q : ∀ M', Two K M' a y z fz ns (aftS w ms x) → ∀ u s, Q (.tup [.int u, .int s]) M') : fsB K .pails w [.ref z, .int x] M Q X :=
  askB w t.bp t.hm rfl (fun z => (thing_not hx.1 hx.2 z).elim) fun v e _ => by
    cases e
    refine ⟨fun z => absurd z hf, fun _ M' o b => q M' ⟨o.st t.mst t.nz, t.bt.frame fun c hc => o c fun h => ?_, b, t.ny, t.na, t.nz, t.hn, t.hm.aft w hx.1 hx.2 fun e z => hf ⟨e, z.2, z.1⟩⟩ _ _⟩
    rw [List.mem_singleton.mp hc] at h
    exact t.ny h
theorem set_perm2 {ns ms : List Int} (hp : ms.Perm ns) (hs : SetN ns) : SetN ms := ⟨by rw [hp.length_eq]; exact hs.len, fun n hn => hs.rng n (hp.mem_iff.mp hn), (hp.nodup_iff).mpr hs.nd⟩
def fs_l_by_ways_4 (K : PySem.W.Frag) : FS := fun ds M Q _ => ∃ (a : Addr) (ks : List Int), ds = [.ref a, .lst (ks.map .int)] ∧ M a = some .st ∧ SetN ks ∧ ∀ (M' : Mem) (y z : Addr) (fz : List Addr) (ns : List Int), Two K M' a y z fz ns ns → ns.Perm ks → Q (.lst [.ref y, .ref z, .lst (ns.map .int)]) M'
theorem mo_l_by_ways_4 {K : PySem.W.Frag} : MonoF (fs_l_by_ways_4 K) := fun _ _ _ _ _ _ h _ ⟨a, ks, e, c, c2, q⟩ => ⟨a, ks, e, c, c2, fun M' y z fz ns h1 h2 => h _ _ (q M' y z fz ns h1 h2)⟩
/-- _law_by_ways -/
def cu1_l_by_ways_4 (K : PySem.W.Frag) : GS := gDrop (gMeth "take" [(He.ga K "Heap", fs_Heap_take K), (He.ga K "Tree", fs_Tree_take K), (He.ga K "Pails", fs_Pails_take_11 K)] (gV 3) (gCons (gV 6) gNil))
def cu2_l_by_ways_4 (K : PySem.W.Frag) : GS := gSeq (gDrop (gMeth "take" [(He.ga K "Heap", fs_Heap_take K), (He.ga K "Tree", fs_Tree_take K), (He.ga K "Pails", fs_Pails_take_11 K)] (gV 2) (gCons (gV 6) gNil))) (cu1_l_by_ways_4 K)
def cu3_l_by_ways_4 (K : PySem.W.Frag) : GS := gSeq (gDrop (gMeth "put" [(He.ga K "Heap", fs_Heap_put K), (He.ga K "Tree", fs_Tree_put_6 K), (He.ga K "Pails", fs_Pails_put_6 K)] (gV 3) (gCons (gV 6) gNil))) (cu2_l_by_ways_4 K)
def cu4_l_by_ways_4 (K : PySem.W.Frag) : GS := gIfS (gAnd (gB (g2 (goIn true) (gV 6) (gV 1))) (gB (g2 (goIn true) (gV 6) (gVw 4)))) (gSeq (gDrop (gMeth "put" [(He.ga K "Heap", fs_Heap_put K), (He.ga K "Tree", fs_Tree_put_6 K), (He.ga K "Pails", fs_Pails_put_6 K)] (gV 2) (gCons (gV 6) gNil))) (cu3_l_by_ways_4 K)) (gNext)
def cu5_l_by_ways_4 (K : PySem.W.Frag) : GS := gDrop (gMeth "put" [(He.ga K "Heap", fs_Heap_put K), (He.ga K "Tree", fs_Tree_put_6 K), (He.ga K "Pails", fs_Pails_put_6 K)] (gV 8) (gCons (gV 7) gNil))
def lp1_l_by_ways_4 (K : PySem.W.Frag) : GS := gSeq (gDrop (gMeth "take" [(He.ga K "Heap", fs_Heap_take K), (He.ga K "Tree", fs_Tree_take K), (He.ga K "Pails", fs_Pails_take_11 K)] (gV 8) (gCons (gV 7) gNil))) (cu5_l_by_ways_4 K)
def af1_l_by_ways_4 (K : PySem.W.Frag) : GS := gOwn 4 (gFcat (gFd (gLc (itsD (fun ds => ds) (gV 4)) (gtN 8) (gB (g2 goNeA (gV 8) (gV 7))) (gV 8) [8])) (gLst (gCons (gV 7) gNil)))
def cu6_l_by_ways_4 (K : PySem.W.Frag) : GS := gSeq (gFor (itsD (fun ds => ds) (gLst (gCons (gV 2) (gCons (gV 3) gNil)))) (gtN 8) (lp1_l_by_ways_4 K)) (af1_l_by_ways_4 K)
def cu7_l_by_ways_4 (K : PySem.W.Frag) : GS := gSeq (gApp 4 (gV 5)) (gIfS (gB (g2 goEqA (gCallM (fs_l_take K) (gCons (gV 0) (gCons (gC (.int 6)) gNil))) (gC (.int 1)))) (gFrz 4 (gSeq (gSet 7 (gCallM (fs_l_pick K) (gCons (gV 0) (gCons (gV 4) gNil)))) (cu6_l_by_ways_4 K))) (gNext))
def cu8_l_by_ways_4 (K : PySem.W.Frag) : GS := gSeq (gDrop (gMeth "put" [(He.ga K "Heap", fs_Heap_put K), (He.ga K "Tree", fs_Tree_put_6 K), (He.ga K "Pails", fs_Pails_put_6 K)] (gV 3) (gCons (gV 5) gNil))) (cu7_l_by_ways_4 K)
def af2_l_by_ways_4 (K : PySem.W.Frag) : GS := gSeq (gDrop (gMeth "put" [(He.ga K "Heap", fs_Heap_put K), (He.ga K "Tree", fs_Tree_put_6 K), (He.ga K "Pails", fs_Pails_put_6 K)] (gV 2) (gCons (gV 5) gNil))) (cu8_l_by_ways_4 K)
def lp2_l_by_ways_4 (K : PySem.W.Frag) : GS := gSeq (gIfS (gAnd (gB (g2 goLtA (gCa gcLen (gCons (gVw 4) gNil)) (gC (.int 39)))) (gB (g2 goEqA (gCallM (fs_l_take K) (gCons (gV 0) (gCons (gC (.int 4)) gNil))) (gC (.int 1))))) (gSeq (gSet 6 (gCallM (fs_l_thing K) (gCons (gV 0) (gCons (gCallM (fs_l_take K) (gCons (gV 0) (gCons (gC (.int 5)) gNil))) gNil)))) (cu4_l_by_ways_4 K)) (gNext)) (af2_l_by_ways_4 K)
def af3_l_by_ways_4 (K : PySem.W.Frag) : GS := gFrz 4 (gRet (gLst (gCons (gV 2) (gCons (gV 3) (gCons (gV 4) gNil)))))
def cu9_l_by_ways_4 (K : PySem.W.Frag) : GS := gSeq (gOwn 4 (gFl (gNil))) (gSeq (gFor (itsD (fun ds => ds) (gV 1)) (gtN 5) (lp2_l_by_ways_4 K)) (af3_l_by_ways_4 K))
def g_l_by_ways_4 (K : PySem.W.Frag) : GS := gSeq (gPar 2 3 (gCons (gMake (He.ga K "Tree") (Fk_Tree K) (fs_Tree___init__ K) (gCons (gTup (gNil)) gNil)) (gCons (gMake (He.ga K "Pails") (Fk_Pails K) (fs_Pails___init__ K) (gCons (gTup (gNil)) gNil)) gNil))) (cu9_l_by_ways_4 K)
theorem h_l_by_ways_4 {K : PySem.W.Frag} : ∀ ds M Q X, (fs_l_by_ways_4 K) ds M Q X → ds.length = ([.v, .v] : List AK).length → g_l_by_ways_4 K { nx := fun _ M' => Q .non M', rt := Q } (entry 9 [.v, .v] ds X) M := by
  rintro ds M Q X ⟨a, ks, rfl, ms, hk, q⟩ -
  wp_walk using g_l_by_ways_4
  refine make_btree (ns := []) ⟨by simp, by simp, List.nodup_nil⟩ fun y fp M2 n1 hy g1 b1 => ?_
  obtain ⟨rfl, b1⟩ := b1
  have ms2 := g1.st ms
  have hay : a ≠ y := fun e => by
    have := n1 y (List.mem_cons_self ..)
    rw [← e, ms] at this
    cases this
  wp_walk
  refine make_bpails (ns := []) ⟨by simp, by simp, List.nodup_nil⟩ fun z fz M3 n2 hz g2 b2 => ?_
  have hyn : M2 y ≠ none := by rw [b1.1]; exact fun z => nomatch z
  have two : Two K M3 a y z fz [] [] := ⟨g2.st ms2, (show BoxAt K .tree M2 y [y] [] from ⟨rfl, b1⟩).frame fun c hc => by rw [List.mem_singleton.mp hc]; exact g2 y hyn, b2, fun h => hyn (n2 y h), hay, fun h => (by have := n2 a h; rw [ms2] at this; cases this), ⟨by simp, by simp, List.nodup_nil⟩, ⟨by simp, by simp, List.nodup_nil⟩⟩
  clear b1 b2 g1 g2 n1 n2 hyn ms ms2
  wp_walk using cu9_l_by_ways_4
  refine loop_mp (enc := D.int) (fun (is : List Int) r M' => ∃ (ns : List Int) (x5 x6 x7 x8 : Sl), nof x8 = true ∧ Two K M' a y z fz ns ns ∧ (ns ++ is).Perm ks ∧ r = ⟨[.v (.ref a), .v (.lst (ks.map .int)), .v (.ref y), .v (.ref z), .o (.lst (ns.map .int)), x5, x6, x7, x8], X⟩) ?_ ?_ ks _ _ ⟨[], .n, .n, .n, .n, rfl, two, List.Perm.refl _, rfl⟩
  · rintro r M' ⟨ns, x5, x6, x7, x8, hn8, two, hp, rfl⟩
    rw [List.append_nil] at hp
    wp_walk using af3_l_by_ways_4
    exact q M' y z fz ns two hp
  · rintro x is r M' ⟨ns, x5, x6, x7, x8, hn8, two, hp, rfl⟩ N hN
    have hall := set_perm2 hp hk
    have hlen := hall.len
    rw [List.length_append, List.length_cons] at hlen
    have hxr : thingN x := hall.rng x (by simp)
    have hxn : x ∉ ns := fun h => (List.nodup_append.mp hall.nd).2.2 x h x (List.mem_cons_self ..) rfl
    have rest : ∀ (M' : Mem) (x6 : Sl), Two K M' a y z fz ns ns → af2_l_by_ways_4 K { nx := N, rt := Q, bk := fun r' M' => af3_l_by_ways_4 K { nx := fun x M' => Q D.non M', rt := Q } r' M', ct := N } ⟨[.v (.ref a), .v (.lst (ks.map .int)), .v (.ref y), .v (.ref z), .o (.lst (ns.map .int)), .v (.int x), x6, x7, x8], X⟩ M' := fun M' x6 two => by
      obtain ⟨fl, ma, hf⟩ := two.bt.ins
      wp_walk using af2_l_by_ways_4, ma
      refine ⟨hf _ (by simp), _, mem_kb kb23 .put (k := .tree) (by simp [kb23]), two.tree .put hxr (fun z => by omega) fun M4 two u s => ?_⟩
      obtain ⟨fl2, ma2, hf2⟩ := two.bp.ins
      wp_walk using cu8_l_by_ways_4, ma2
      refine ⟨hf2 _ (by simp), _, mem_kb kb23 .put (k := .pails) (by simp [kb23]), two.pails .put hxr (fun z => by omega) fun M5 two u s => ?_⟩
      have ex : aftS .put ns x = ns ++ [x] := if_neg hxn
      rw [ex] at two
      have hl5 := two.hn.len
      wp_walk using cu7_l_by_ways_4
      refine ⟨size_lt (by omega), ?_⟩
      have em : ns.map D.int ++ [.int x] = (ns ++ [x]).map .int := by rw [List.map_append]; rfl
      rw [em]
      have hp2 : ((ns ++ [x]) ++ is).Perm ks := by simpa using hp
      have hpos : 0 < (ns ++ [x]).length := by simp
      generalize ns ++ [x] = ns at two hl5 hp2 hpos ⊢
      refine take_of (K := K) two.mst (by omega) (by omega) fun t t0 t1 => ?_
      wp_walk
      by_cases h1 : t = 1
      · rw [if_pos h1]
        refine pick_of (K := K) two.mst rfl (by rw [List.length_map]; exact hpos) (by rw [List.length_map]; omega) fun v hv => ?_
        obtain ⟨g, hg, rfl⟩ := List.mem_map.mp hv
        have hgr := two.hn.rng g hg
        have hlt : (aftS .take ns g).length < ns.length := by
          refine Nat.lt_of_le_of_ne (List.length_filter_le ..) fun e => ?_
          have := List.filter_eq_self.mp (List.filter_sublist.eq_of_length e) g hg
          simp at this
        have hgn : g ∉ aftS .take ns g := fun z => by
          have := (List.mem_filter.mp z).2
          simp at this
        have erot : aftS .put (aftS .take ns g) g = aftS .take ns g ++ [g] := if_neg hgn
        wp_walk using cu6_l_by_ways_4
        refine loop_inv (fun ds r M' => ∃ (x8 : Sl), nof x8 = true ∧ r = ⟨[.v (.ref a), .v (.lst (ks.map .int)), .v (.ref y), .v (.ref z), .v (.lst (ns.map .int)), .v (.int x), x6, .v (.int g), x8], X⟩ ∧ ((ds = [.ref y, .ref z] ∧ Two K M' a y z fz ns ns) ∨ (ds = [.ref z] ∧ Two K M' a y z fz (aftS .take ns g ++ [g]) ns) ∨ (ds = [] ∧ Two K M' a y z fz (aftS .take ns g ++ [g]) (aftS .take ns g ++ [g])))) ?_ ?_ _ _ _ ⟨x8, hn8, rfl, .inl ⟨rfl, two⟩⟩
        · rintro r M' ⟨x8, hn8, rfl, h | h | h⟩
          · cases h.1
          · cases h.1
          obtain ⟨-, two⟩ := h
          wp_walk using af1_l_by_ways_4, hn8
          refine lc_fp (enc := D.int) (f := D.int) (p := fun n => !decide (n = g)) (fun n hn Q' P' y1 y2 => ?_) (size_of (by rw [List.length_nil]; omega)) ?_
          · wp_walk
            by_cases h : n = g
            · rw [if_pos h]
              exact y2 (by rw [decide_eq_true h]; rfl)
            · rw [if_neg h]
              exact y1 (by rw [decide_eq_false h]; rfl)
          rw [List.nil_append]
          wp_walk
          have hl6 : (ns.filter fun n => !decide (n = g)).length ≤ 40 := Nat.le_trans (List.length_filter_le ..) hl5
          refine ⟨size_of (by omega), ?_⟩
          have e2 : (ns.filter fun n => !decide (n = g)).map D.int ++ [.int g] = (aftS .take ns g ++ [g]).map .int := by rw [List.map_append]; rfl
          rw [e2]
          refine hN _ _ ⟨aftS .take ns g ++ [g], _, _, _, _, hn8, two, ?_, rfl⟩
          refine List.Perm.trans (List.Perm.append_right is ?_) hp2
          have hnd1 := (List.nodup_append.mp (set_perm2 hp2 hk).nd).1
          have e : aftS .take ns g = ns.erase g := (hnd1.erase_eq_filter g).symm
          rw [e]
          exact (List.perm_append_comm).trans (List.perm_cons_erase hg).symm
        · rintro d ds r M' ⟨x8, hn8, rfl, h | h | h⟩ N2 hN2
          · obtain ⟨e, two⟩ := h
            injection e with e1 e2
            subst e1 e2
            obtain ⟨fl, ma, hf⟩ := two.bt.ins
            wp_walk using lp1_l_by_ways_4, ma
            refine ⟨hf _ (by simp), _, mem_kb kb23 .take (k := .tree) (by simp [kb23]), two.tree .take hgr (fun z => nomatch z.1) fun M4 two u s => ?_⟩
            obtain ⟨fl2, ma2, hf2⟩ := two.bt.ins
            wp_walk using cu5_l_by_ways_4, ma2
            refine ⟨hf2 _ (by simp), _, mem_kb kb23 .put (k := .tree) (by simp [kb23]), two.tree .put hgr (fun z => by omega) fun M5 two u s => ?_⟩
            rw [erot] at two
            wp_walk
            exact hN2 _ _ ⟨_, rfl, rfl, .inr (.inl ⟨rfl, two⟩)⟩
          · obtain ⟨e, two⟩ := h
            injection e with e1 e2
            subst e1 e2
            obtain ⟨fl, ma, hf⟩ := two.bp.ins
            wp_walk using lp1_l_by_ways_4, ma
            refine ⟨hf _ (by simp), _, mem_kb kb23 .take (k := .pails) (by simp [kb23]), two.pails .take hgr (fun z => nomatch z.1) fun M4 two u s => ?_⟩
            obtain ⟨fl2, ma2, hf2⟩ := two.bp.ins
            wp_walk using cu5_l_by_ways_4, ma2
            refine ⟨hf2 _ (by simp), _, mem_kb kb23 .put (k := .pails) (by simp [kb23]), two.pails .put hgr (fun z => by omega) fun M5 two u s => ?_⟩
            rw [erot] at two
            wp_walk
            exact hN2 _ _ ⟨_, rfl, rfl, .inr (.inr ⟨rfl, two⟩)⟩
          · cases h.1
      · rw [if_neg h1]
        exact hN _ _ ⟨ns, _, _, _, _, hn8, two, hp2, rfl⟩
    wp_walk using lp2_l_by_ways_4
    by_cases h39 : ((ns.length : Nat) : Int) < 39
    · rw [if_pos h39]
      refine take_of (K := K) two.mst (by omega) (by omega) fun t t0 t1 => ?_
      wp_walk
      by_cases h1 : t = 1
      · rw [if_pos h1]
        refine take_of (K := K) two.mst (by omega) (by omega) fun k k0 k1 => ?_
        refine thing_dr (K := K) two.mst k0 fun o o0 o1 => ?_
        wp_walk using cu4_l_by_ways_4, goIn_lstI
        by_cases hok : o ∈ ks
        · wp_walk using hok
          exact rest _ _ two
        by_cases hon : o ∈ ns
        · wp_walk using hok, hon
          exact rest _ _ two
        have hor : thingN o := ⟨o0, o1⟩
        have eo : aftS .put ns o = ns ++ [o] := if_neg hon
        have e2 : aftS .take (ns ++ [o]) o = ns := by
          show (ns ++ [o]).filter (fun n => !decide (n = o)) = ns
          rw [List.filter_append, show ([o].filter fun n => !decide (n = o)) = [] by simp, List.append_nil]
          exact List.filter_eq_self.mpr fun z hz => by
            have : z ≠ o := fun e => hon (e ▸ hz)
            simp [this]
        obtain ⟨fl, ma, hf⟩ := two.bt.ins
        wp_walk using hok, hon, ma
        refine ⟨hf _ (by simp), _, mem_kb kb23 .put (k := .tree) (by simp [kb23]), two.tree .put hor (fun z => by omega) fun M4 two u s => ?_⟩
        rw [eo] at two
        obtain ⟨fl2, ma2, hf2⟩ := two.bp.ins
        wp_walk using cu3_l_by_ways_4, ma2
        refine ⟨hf2 _ (by simp), _, mem_kb kb23 .put (k := .pails) (by simp [kb23]), two.pails .put hor (fun z => by omega) fun M5 two u s => ?_⟩
        rw [eo] at two
        obtain ⟨fl3, ma3, hf3⟩ := two.bt.ins
        wp_walk using cu2_l_by_ways_4, ma3
        refine ⟨hf3 _ (by simp), _, mem_kb kb23 .take (k := .tree) (by simp [kb23]), two.tree .take hor (fun z => nomatch z.1) fun M6 two u s => ?_⟩
        rw [e2] at two
        obtain ⟨fl4, ma4, hf4⟩ := two.bp.ins
        wp_walk using cu1_l_by_ways_4, ma4
        refine ⟨hf4 _ (by simp), _, mem_kb kb23 .take (k := .pails) (by simp [kb23]), two.pails .take hor (fun z => nomatch z.1) fun M7 two u s => ?_⟩
        rw [e2] at two
        wp_walk
        exact rest _ _ two
      · rw [if_neg h1]
        exact rest _ _ two
    · rw [if_neg h39]
      exact rest _ _ two
def fs_law_k23 (K : PySem.W.Frag) : FS := fun ds M Q _ => ∃ ns : List Int, ds = [.lst (ns.map .int)] ∧ ns.length ≤ 63 ∧ ∀ M', Q (.bl true) M'
theorem mo_law_k23 {K : PySem.W.Frag} : MonoF (fs_law_k23 K) := fun _ _ _ _ _ _ h _ ⟨ns, e, c, q⟩ => ⟨ns, e, c, fun M' => h _ _ (q M')⟩
/-- law -/
def af1_law_k23 (K : PySem.W.Frag) : GS := gRet (gCh goEqA goEqA (gCa gcRepr (gCons (gMeth "form" [(He.ga K "Heap", fs_Heap_form K), (He.ga K "Tree", fs_Tree_form K), (He.ga K "Pails", fs_Pails_form_6 K)] (gV 6) gNil) gNil)) (gCa gcRepr (gCons (gCallP (fs_l_pail_form K) (gCons (gV 7) gNil)) gNil)) (gCa gcRepr (gCons (gMeth "form" [(He.ga K "Heap", fs_Heap_form K), (He.ga K "Tree", fs_Tree_form K), (He.ga K "Pails", fs_Pails_form_6 K)] (gMake (He.ga K "Pails") (Fk_Pails K) (fs_Pails___init__ K) (gCons (gCa gcTupleS (gCons (gV 7) gNil)) gNil)) gNil) gNil)))
def cu1_law_k23 (K : PySem.W.Frag) : GS := gSeq (gIfS (gB (g2 goNeA (gFd (gLc (itsD (fun ds => ds) (g2 goAdd (gV 4) (gLst (gCons (gMeth "form" [(He.ga K "Heap", fs_Heap_form K), (He.ga K "Tree", fs_Tree_form K), (He.ga K "Pails", fs_Pails_form_6 K)] (gV 5) gNil) gNil)))) (gtN 8) (gYes) (gCa gcRepr (gCons (gV 8) gNil)) [8])) (g2 goMulL (gLst (gCons (gCa gcRepr (gCons (gV 3) gNil)) gNil)) (gC (.int 3))))) (gRet (gC (.bl false))) (gNext)) (af1_law_k23 K)
def cu2_law_k23 (K : PySem.W.Frag) : GS := gSeq (gAsg (gCallM (fs_l_by_ways_4 K) (gCons (gV 1) (gCons (gV 2) gNil))) (gtLst (gtCons (gtN 5) (gtCons (gtN 6) (gtCons (gtN 7) gtNil))) 3)) (cu1_law_k23 K)
def af2_law_k23 (K : PySem.W.Frag) : GS := gSeq (gSet 4 (gLst (gCons (gMeth "form" [(He.ga K "Heap", fs_Heap_form K), (He.ga K "Tree", fs_Tree_form K), (He.ga K "Pails", fs_Pails_form_6 K)] (gMake (He.ga K "Tree") (Fk_Tree K) (fs_Tree___init__ K) (gCons (gCa gcTupleS (gCons (gCallM (fs_l_order K) (gCons (gV 1) (gCons (gV 2) gNil))) gNil)) gNil)) gNil) (gCons (gMeth "form" [(He.ga K "Heap", fs_Heap_form K), (He.ga K "Tree", fs_Tree_form K), (He.ga K "Pails", fs_Pails_form_6 K)] (gMake (He.ga K "Tree") (Fk_Tree K) (fs_Tree___init__ K) (gCons (gCa gcTupleS (gCons (gFd (gFsort (gV 2))) gNil)) gNil)) gNil) gNil)))) (cu2_law_k23 K)
def cu3_law_k23 (K : PySem.W.Frag) : GS := gSeq (gIfS (gB (g2 goNeA (gCallP (fs_l_walked_2 K) (gCons (gV 3) gNil)) (gFd (gFsort (gV 2))))) (gRet (gC (.bl false))) (gNext)) (af2_law_k23 K)
def cu4_law_k23 (K : PySem.W.Frag) : GS := gSeq (gSet 3 (gMeth "form" [(He.ga K "Heap", fs_Heap_form K), (He.ga K "Tree", fs_Tree_form K), (He.ga K "Pails", fs_Pails_form_6 K)] (gMake (He.ga K "Tree") (Fk_Tree K) (fs_Tree___init__ K) (gCons (gCa gcTupleS (gCons (gV 2) gNil)) gNil)) gNil)) (cu3_law_k23 K)
def cu5_law_k23 (K : PySem.W.Frag) : GS := gSeq (gSet 2 (gCallM (fs_l_set_4 K) (gCons (gV 1) (gCons (gC (.int 40)) gNil)))) (cu4_law_k23 K)
def g_law_k23 (K : PySem.W.Frag) : GS := gSeq (gSet 1 (gCallM (fs_l_begun K) (gScr 0))) (cu5_law_k23 K)
theorem h_law_k23 {K : PySem.W.Frag} : ∀ ds M Q X, (fs_law_k23 K) ds M Q X → ds.length = ([.s] : List AK).length → g_law_k23 K { nx := fun _ M' => Q .non M', rt := Q } (entry 9 [.s] ds X) M := by
  rintro ds M Q X ⟨scr, rfl, hl, q⟩ -
  wp_walk using g_law_k23
  refine ⟨scr, rfl, hl, fun a na => ?_⟩
  have ms : mup M a .st a = some .st := mup_same
  generalize mup M a .st = M1 at ms ⊢
  wp_walk using cu5_law_k23
  refine ⟨a, _, rfl, ms, ⟨40, rfl, by decide, by decide⟩, fun d ⟨ks, e, hs⟩ => ?_⟩
  subst e
  have hl := hs.len
  wp_walk using cu4_law_k23
  refine make_btree hs fun y fp M2 n1 hy g1 b1 => ?_
  obtain ⟨rfl, b1⟩ := b1
  have ms2 := g1.st ms
  obtain ⟨my, hc, hn⟩ := id b1
  wp_walk using my
  refine ⟨rfl, _, List.mem_cons_of_mem _ (List.mem_cons_self ..), y, _, rfl, b1, ?_⟩
  wp_walk using cu3_law_k23
  refine ⟨treeN ks, rfl, by have := tree_sz hs; omega, tree_sz hs, tree_wf hs.nd, tree_ok hs, ?_⟩
  wp_walk
  intro us hp hk
  rw [srt_eq hp hk, tree_in hs.nd]
  refine ⟨⟨ok_lI _, ok_lI _⟩, ?_⟩
  rw [if_pos (eqv_ok (ok_lI _))]
  wp_walk using af2_law_k23
  refine ⟨a, ks, rfl, ms2, hl, fun os M3 g3 hpo => ?_⟩
  have ms3 := g3.st ms2
  have hso := set_perm2 hpo hs
  wp_walk
  refine make_btree hso fun y2 fp M4 n1 hy g1 b1 => ?_
  obtain ⟨rfl, b1⟩ := b1
  have ms4 := g1.st ms3
  have b1 : TreeAt K M4 y2 ks := by
    obtain ⟨h1, h2⟩ := b1
    rw [tree_eq hso.nd hs.nd fun z => hpo.mem_iff] at h1
    exact ⟨h1, h2⟩
  obtain ⟨my2, hc2, hn2⟩ := id b1
  wp_walk using my2
  refine ⟨rfl, _, List.mem_cons_of_mem _ (List.mem_cons_self ..), y2, _, rfl, b1, ?_⟩
  wp_walk
  intro us hp hk
  rw [srt_eq hp hk]
  wp_walk
  refine make_btree hs.srt fun y3 fp M5 n1 hy g1 b1 => ?_
  obtain ⟨rfl, b1⟩ := b1
  have ms5 := g1.st ms4
  have b1 : TreeAt K M5 y3 ks := by
    obtain ⟨h1, h2⟩ := b1
    rw [tree_srt hs] at h1
    exact ⟨h1, h2⟩
  obtain ⟨my3, hc3, hn3⟩ := id b1
  wp_walk using my3
  refine ⟨rfl, _, List.mem_cons_of_mem _ (List.mem_cons_self ..), y3, _, rfl, b1, ?_⟩
  wp_walk using cu2_law_k23
  refine ⟨a, ks, rfl, ms5, hs, fun M6 y4 z fz ns two hpn => ?_⟩
  have b4 : TreeAt K M6 y4 ks := by
    obtain ⟨-, h1, h2⟩ := two.bt
    rw [tree_eq two.hn.nd hs.nd fun z => hpn.mem_iff] at h1
    exact ⟨h1, h2⟩
  obtain ⟨my4, hc4, hn4⟩ := id b4
  wp_walk using cu1_law_k23, my4
  refine ⟨rfl, _, List.mem_cons_of_mem _ (List.mem_cons_self ..), y4, _, rfl, b4, ?_⟩
  wp_walk
  refine lc_map (fun _ => .str (treeN ks).d.py.shown) (fun d hd Q' q' => ?_) (size_of (by simp)) ?_
  · have ed : d = (treeN ks).d := by simpa using hd
    subst ed
    wp_walk
    exact repr_tree hs q'
  wp_walk
  refine repr_tree hs ?_
  wp_walk
  rw [show repD 3 [D.str (treeN ks).d.py.shown] = [.str (treeN ks).d.py.shown, .str (treeN ks).d.py.shown, .str (treeN ks).d.py.shown] from rfl]
  have okl : D.ok (.lst [.str (treeN ks).d.py.shown, .str (treeN ks).d.py.shown, .str (treeN ks).d.py.shown]) = true := (ok1_lst (k := 0) fun d hd => by
    have ed : d = .str (treeN ks).d.py.shown := by simpa using hd
    rw [ed]
    exact ok1_shown (ntx_tree _)).ok
  refine ⟨by decide, ⟨okl, okl⟩, ?_⟩
  rw [if_pos (eqv_ok okl)]
  obtain ⟨fl, ma, hf⟩ := two.bp.ins
  have hl2 := two.hn.len
  wp_walk using af1_law_k23, ma
  refine ⟨hf _ (by simp), _, mem_kbF kb23 (k := .pails) (by simp [kb23]), formB two.bp two.hn ?_⟩
  refine repr_frmB (k := .pails) two.hn ?_
  wp_walk
  refine ⟨ns, rfl, hl2, ?_⟩
  refine repr_frmB (k := .pails) two.hn ?_
  wp_walk
  refine make_bpails two.hn fun z2 fp2 M7 n2 hz g2 b2 => ?_
  obtain ⟨fl2, ma2, hf2⟩ := b2.ins
  wp_walk using ma2
  refine ⟨hf2 _ (by simp), _, mem_kbF kb23 (k := .pails) (by simp [kb23]), formB b2 two.hn ?_⟩
  refine repr_frmB (k := .pails) two.hn ?_
  wp_walk
  exact q _
end
end LW
namespace LW
open PySem PySem.Spec PySem.W PyProof.Rows L2 DL
def topS (i : Nat) : Stmt := PySem.Challenge.pw_turnshelf_k23_whole_one_tree_a_set.main.body.getD i (.Pass ⟨0, 0, 0, 0⟩)
def mthS (i j : Nat) : Stmt := match topS i with
  | .ClassDef _ _ _ b _ _ _ _ _ _ _ => b.getD j (.Pass ⟨0, 0, 0, 0⟩)
  | st => st
def ts : List He.Tab := [((fun K => He.ga K "SET_WORDS"), ["put", "take", "has", "next", "rank"]), ((fun K => He.ga K "ROW_WORDS"), ["at", "into", "out", "find"]), ((fun K => He.ga K "MAP_WORDS"), ["set", "get", "drop", "next"]), ((fun K => He.ga K "WORDS"), ["set", "row", "map"])]
def cs : List Ck := [.tab "SET_WORDS" (fun K => [("put", .int 1), ("take", .int 1), ("has", .int 1), ("next", .int 1), ("rank", .int 1)]), .tab "ROW_WORDS" (fun K => [("at", .int 1), ("into", .int 2), ("out", .int 1), ("find", .int 1)]), .tab "MAP_WORDS" (fun K => [("set", .int 2), ("get", .int 1), ("drop", .int 1), ("next", .int 1)]), .tab "WORDS" (fun K => [("set", .ref (He.ga K "SET_WORDS")), ("row", .ref (He.ga K "ROW_WORDS")), ("map", .ref (He.ga K "MAP_WORDS"))])]
def fa : List He.Fa := [.glo "_law_begun", .glo "_law_take", .glo "_law_pick", .glo "_law_size", .glo "_law_thing", .glo "_law_set", .glo "need_sort", .glo "are_unlike", .glo "is_thing", .glo "is_pair", .glo "is_things", .glo "need_set", .glo "turn_of", .glo "is_upper", .glo "parted", .glo "with_thing", .glo "need_member", .glo "need_place", .glo "way_of", .glo "nodes", .glo "new_nodes", .glo "joined", .glo "without", .glo "_law_by_ways", .glo "_law_turn", .glo "_law_walked", .glo "_law_pail_form", .glo "_law_order", .glo "law", .free "abs", .free "all", .free "bool", .free "int", .free "isinstance", .free "len", .free "list", .free "range", .free "repr", .free "set", .free "sorted", .free "str", .free "tuple", .int "MOST_THERE" 40, .int "LAST_THING" 999999, .int "PAILS" 8, .glo "Heap", .cls "Heap", .mkr "Heap", .noat "Heap" "kept", .meth "Heap" "form", .meth "Heap" "looks", .meth "Heap" "put", .meth "Heap" "take", .glo "Tree", .cls "Tree", .mkr "Tree", .noat "Tree" "node", .meth "Tree" "form", .meth "Tree" "looked", .meth "Tree" "change", .meth "Tree" "put", .meth "Tree" "take", .glo "Pails", .cls "Pails", .mkr "Pails", .noat "Pails" "pails", .meth "Pails" "form", .meth "Pails" "pail_of", .meth "Pails" "all_things", .meth "Pails" "put", .meth "Pails" "take", .glo "SET_WORDS", .glo "ROW_WORDS", .glo "MAP_WORDS", .glo "WORDS", .glo "NoDeed", .exc "NoDeed", .glo "NoSort", .exc "NoSort", .glo "NoThings", .exc "NoThings", .glo "TooMany", .exc "TooMany"]
def fn : List He.DefD := [⟨("_law_begun", none), "_law_begun", "_law_begun", defArgs (topS 39), defBody (topS 39), defScope (topS 39), [], []⟩,
  ⟨("_law_take", none), "_law_take", "_law_take", defArgs (topS 40), defBody (topS 40), defScope (topS 40), [], []⟩,
  ⟨("_law_pick", none), "_law_pick", "_law_pick", defArgs (topS 41), defBody (topS 41), defScope (topS 41), [], []⟩,
  ⟨("_law_size", none), "_law_size", "_law_size", defArgs (topS 43), defBody (topS 43), defScope (topS 43), [], []⟩,
  ⟨("_law_thing", none), "_law_thing", "_law_thing", defArgs (topS 42), defBody (topS 42), defScope (topS 42), [], []⟩,
  ⟨("_law_set", none), "_law_set", "_law_set", defArgs (topS 44), defBody (topS 44), defScope (topS 44), [], []⟩,
  ⟨("need_sort", none), "need_sort", "need_sort", defArgs (topS 14), defBody (topS 14), defScope (topS 14), [], []⟩,
  ⟨("are_unlike", none), "are_unlike", "are_unlike", defArgs (topS 17), defBody (topS 17), defScope (topS 17), [], []⟩,
  ⟨("is_thing", none), "is_thing", "is_thing", defArgs (topS 15), defBody (topS 15), defScope (topS 15), [], []⟩,
  ⟨("is_pair", none), "is_pair", "is_pair", defArgs (topS 16), defBody (topS 16), defScope (topS 16), [], []⟩,
  ⟨("is_things", none), "is_things", "is_things", defArgs (topS 18), defBody (topS 18), defScope (topS 18), [], []⟩,
  ⟨("need_set", none), "need_set", "need_set", defArgs (topS 21), defBody (topS 21), defScope (topS 21), [], []⟩,
  ⟨("turn_of", none), "turn_of", "turn_of", defArgs (topS 25), defBody (topS 25), defScope (topS 25), [], []⟩,
  ⟨("is_upper", none), "is_upper", "is_upper", defArgs (topS 26), defBody (topS 26), defScope (topS 26), [], []⟩,
  ⟨("parted", none), "parted", "parted", defArgs (topS 27), defBody (topS 27), defScope (topS 27), [], []⟩,
  ⟨("with_thing", none), "with_thing", "with_thing", defArgs (topS 29), defBody (topS 29), defScope (topS 29), [], []⟩,
  ⟨("need_member", none), "need_member", "need_member", defArgs (topS 22), defBody (topS 22), defScope (topS 22), [], []⟩,
  ⟨("need_place", none), "need_place", "need_place", defArgs (topS 19), defBody (topS 19), defScope (topS 19), [], []⟩,
  ⟨("way_of", none), "way_of", "way_of", defArgs (topS 33), defBody (topS 33), defScope (topS 33), [], []⟩,
  ⟨("nodes", none), "nodes", "nodes", defArgs (topS 31), defBody (topS 31), defScope (topS 31), [], []⟩,
  ⟨("new_nodes", none), "new_nodes", "new_nodes", defArgs (topS 32), defBody (topS 32), defScope (topS 32), [], []⟩,
  ⟨("joined", none), "joined", "joined", defArgs (topS 28), defBody (topS 28), defScope (topS 28), [], []⟩,
  ⟨("without", none), "without", "without", defArgs (topS 30), defBody (topS 30), defScope (topS 30), [], []⟩,
  ⟨("_law_by_ways", none), "_law_by_ways", "_law_by_ways", defArgs (topS 49), defBody (topS 49), defScope (topS 49), [], []⟩,
  ⟨("_law_turn", none), "_law_turn", "_law_turn", defArgs (topS 47), defBody (topS 47), defScope (topS 47), [], []⟩,
  ⟨("_law_walked", none), "_law_walked", "_law_walked", defArgs (topS 48), defBody (topS 48), defScope (topS 48), [], []⟩,
  ⟨("_law_pail_form", none), "_law_pail_form", "_law_pail_form", defArgs (topS 45), defBody (topS 45), defScope (topS 45), [], []⟩,
  ⟨("_law_order", none), "_law_order", "_law_order", defArgs (topS 46), defBody (topS 46), defScope (topS 46), [], []⟩,
  ⟨("law", none), "law", "law", defArgs (topS 50), defBody (topS 50), defScope (topS 50), [], []⟩,
  ⟨("Heap", some "form"), "form", "Heap.form", defArgs (mthS 23 7), defBody (mthS 23 7), defScope (mthS 23 7), [], []⟩,
  ⟨("Tree", some "form"), "form", "Tree.form", defArgs (mthS 34 8), defBody (mthS 34 8), defScope (mthS 34 8), [], []⟩,
  ⟨("Pails", some "form"), "form", "Pails.form", defArgs (mthS 37 8), defBody (mthS 37 8), defScope (mthS 37 8), [], []⟩,
  ⟨("Tree", some "__init__"), "__init__", "Tree.__init__", defArgs (mthS 34 0), defBody (mthS 34 0), defScope (mthS 34 0), [], []⟩,
  ⟨("Heap", some "__init__"), "__init__", "Heap.__init__", defArgs (mthS 23 0), defBody (mthS 23 0), defScope (mthS 23 0), [], []⟩,
  ⟨("Pails", some "__init__"), "__init__", "Pails.__init__", defArgs (mthS 37 0), defBody (mthS 37 0), defScope (mthS 37 0), [], []⟩,
  ⟨("Heap", some "looks"), "looks", "Heap.looks", defArgs (mthS 23 1), defBody (mthS 23 1), defScope (mthS 23 1), [], []⟩,
  ⟨("Heap", some "put"), "put", "Heap.put", defArgs (mthS 23 2), defBody (mthS 23 2), defScope (mthS 23 2), [], []⟩,
  ⟨("Tree", some "looked"), "looked", "Tree.looked", defArgs (mthS 34 1), defBody (mthS 34 1), defScope (mthS 34 1), [], []⟩,
  ⟨("Tree", some "change"), "change", "Tree.change", defArgs (mthS 34 2), defBody (mthS 34 2), defScope (mthS 34 2), [], []⟩,
  ⟨("Tree", some "put"), "put", "Tree.put", defArgs (mthS 34 3), defBody (mthS 34 3), defScope (mthS 34 3), [], []⟩,
  ⟨("Pails", some "pail_of"), "pail_of", "Pails.pail_of", defArgs (mthS 37 1), defBody (mthS 37 1), defScope (mthS 37 1), [], []⟩,
  ⟨("Pails", some "all_things"), "all_things", "Pails.all_things", defArgs (mthS 37 2), defBody (mthS 37 2), defScope (mthS 37 2), [], []⟩,
  ⟨("Pails", some "put"), "put", "Pails.put", defArgs (mthS 37 3), defBody (mthS 37 3), defScope (mthS 37 3), [], []⟩,
  ⟨("Heap", some "take"), "take", "Heap.take", defArgs (mthS 23 3), defBody (mthS 23 3), defScope (mthS 23 3), [], []⟩,
  ⟨("Tree", some "take"), "take", "Tree.take", defArgs (mthS 34 4), defBody (mthS 34 4), defScope (mthS 34 4), [], []⟩,
  ⟨("Pails", some "take"), "take", "Pails.take", defArgs (mthS 37 4), defBody (mthS 37 4), defScope (mthS 37 4), [], []⟩]
section
variable {P : Program} {w : World} {K : PySem.W.Frag} {mg : Str → Option Value} {base : Heap}
abbrev st_l_begun : Stmt := topS 39
abbrev nm_l_begun : List PySem.Str := ["_law_script", "_law_cell"]
theorem sc_l_begun : FnScope nm_l_begun ["_law_script"] (defScope st_l_begun) := ⟨rfl, rfl, rfl, by decide +kernel, rfl, by decide +kernel, by decide +kernel⟩
theorem ok_l_begun (T : WorC fa fn ts cs w K mg) : Def P w K mg base 1 "_law_begun" ["_law_script"] [.s] (fs_l_begun K) :=
  (T.def_ 0 (g := g_l_begun K) sc_l_begun (hbd := fun _ _ _ _ _ _ us hl => match us, hl with | [_], _ => rfl) (hmo := mo_l_begun)
    (hbody := fun f cdv A outer s H E hr hgd => dss_one (ds_retM (p := true) (df_disp (dps_cons ((df_comp (own := [("_law_cell", 1)]) rfl sc_l_begun.nd (di_scr 0) (blkOk_by (N := nm_l_begun) (sc := defScope st_l_begun) (by decide +kernel)) (fun _ _ _ _ _ => dt_name 1 sc_l_begun.nd) (fun _ _ _ _ _ => dtts_nil) (fun _ _ _ _ _ => de_callB ca_abs (by rfl) (T.free 29) (by decide +kernel) (da_one (de_var 1)))).de) (dps_cons (de_int) (dps_cons (de_int) (dps_cons (de_int) (dps_cons (de_add (de_int) (de_lenS 0 (by rfl) (T.free 34))) (dps_nil)))))))))
    (hfs := h_l_begun)).begun
abbrev st_l_take : Stmt := topS 40
abbrev nm_l_take : List PySem.Str := ["_law_state", "_law_many", "_law_cells", "_law_found", "_law_cell"]
theorem sc_l_take : FnScope nm_l_take ["_law_state", "_law_many"] (defScope st_l_take) := ⟨rfl, rfl, rfl, by decide +kernel, rfl, by decide +kernel, by decide +kernel⟩
theorem ok_l_take (T : WorC fa fn ts cs w K mg) : Def P w K mg base 1 "_law_take" ["_law_state", "_law_many"] [.v, .v] (fs_l_take K) :=
  (T.def_ 1 (g := g_l_take K) sc_l_take (hbd := fun _ _ _ _ _ _ us hl => match us, hl with | [_, _], _ => rfl) (hmo := mo_l_take)
    (hbody := fun f cdv A outer s H E hr hgd => dss_cons (ds_set (p := true) 2 sc_l_take.nd (de_mget (hu_ hr) (de_var 0) (de_str)))
    (dss_cons (ds_while (p := true) (passes_of rfl) ((dw_and (dt_cmp (od_ltA (hu_ (n := 0) hr)) (de_mget (hu_ hr) (de_var 0) (de_str)) (de_int)) (dw_and1 (dt_cmp (od_ltA (hu_ (n := 0) hr)) (de_mget (hu_ hr) (de_var 0) (de_str)) (de_callB ca_len (by rfl) (T.free 34) (by decide +kernel) (da_one (de_var 2)))))).dt) (dss_cons (ds_if (p := true) (dt_cmp od_ge (de_ix (hu_ hr) (de_var 2) (de_mget (hu_ hr) (de_var 0) (de_str))) (de_op od_pow (de_int) (de_int))) (dss_one (ds_mput (p := true) (hu_ hr) (de_var 0) (de_str) (de_ix (hu_ hr) (de_var 2) (de_mget (hu_ hr) (de_var 0) (de_str))))) (dss_nil))
    (dss_one (ds_mput (p := true) (hu_ hr) (de_var 0) (de_str) (de_add (de_mget (hu_ hr) (de_var 0) (de_str)) (de_int))))))
    (dss_cons (ds_if (p := true) (dt_cmp od_gt (de_mget (hu_ hr) (de_var 0) (de_str)) (de_int)) (dss_cons (ds_set (p := true) 3 sc_l_take.nd (de_op od_mod (de_mget (hu_ hr) (de_var 0) (de_str)) (de_var 1)))
    (dss_cons (ds_mput (p := true) (hu_ hr) (de_var 0) (de_str) (de_op od_fdiv (de_mget (hu_ hr) (de_var 0) (de_str)) (de_var 1)))
    (dss_one (ds_ret (p := true) (de_var 3))))) (dss_nil))
    (dss_cons (ds_set (p := true) 4 sc_l_take.nd (de_int))
    (dss_cons (ds_if (p := true) (dt_cmp od_gt (de_callB ca_len (by rfl) (T.free 34) (by decide +kernel) (da_one (de_var 2))) (de_int)) (dss_one (ds_set (p := true) 4 sc_l_take.nd (de_ix (hu_ hr) (de_var 2) (de_op od_mod (de_mget (hu_ hr) (de_var 0) (de_str)) (de_callB ca_len (by rfl) (T.free 34) (by decide +kernel) (da_one (de_var 2))))))) (dss_nil))
    (dss_cons (ds_mput (p := true) (hu_ hr) (de_var 0) (de_str) (de_add (de_mget (hu_ hr) (de_var 0) (de_str)) (de_int)))
    (dss_cons (ds_mput (p := true) (hu_ hr) (de_var 0) (de_str) (de_op od_mod (de_add (de_add (de_op od_mulI (de_mget (hu_ hr) (de_var 0) (de_str)) (de_int)) (de_var 4)) (de_mget (hu_ hr) (de_var 0) (de_str))) (de_int)))
    (dss_one (ds_ret (p := true) (de_op od_mod (de_op od_mod (de_add (de_op od_mulI (de_mget (hu_ hr) (de_var 0) (de_str)) (de_mget (hu_ hr) (de_var 0) (de_str))) (de_op od_mulI (de_int) (de_mget (hu_ hr) (de_var 0) (de_str)))) (de_int)) (de_var 1)))))))))))
    (hfs := h_l_take)).draw
abbrev st_l_pick : Stmt := topS 41
abbrev nm_l_pick : List PySem.Str := ["_law_state", "_law_some"]
theorem sc_l_pick : FnScope nm_l_pick ["_law_state", "_law_some"] (defScope st_l_pick) := ⟨rfl, rfl, rfl, by decide +kernel, rfl, by decide +kernel, by decide +kernel⟩
theorem ok_l_pick (T : WorC fa fn ts cs w K mg) : Def P w K mg base 2 "_law_pick" ["_law_state", "_law_some"] [.v, .v] (fs_l_pick K) :=
  T.def_ 2 (g := g_l_pick K) sc_l_pick (hbd := fun _ _ _ _ _ _ us hl => match us, hl with | [_, _], _ => rfl) (hmo := mo_l_pick)
    (hbody := fun f cdv A outer s H E hr hgd => dss_one (ds_ret (p := false) (de_ix (hu_ hr) (de_var 1) (dc_m ((ok_l_take T)) hr hgd (dak_cons (k := .v) (de_var 0) (dak_one (k := .v) (de_callB ca_len (by rfl) (T.free 34) (by decide +kernel) (da_one (de_var 1)))))))))
    (hfs := h_l_pick)
abbrev st_l_size : Stmt := topS 43
abbrev nm_l_size : List PySem.Str := ["_law_state", "_law_bound", "_law_some"]
theorem sc_l_size : FnScope nm_l_size ["_law_state", "_law_bound"] (defScope st_l_size) := ⟨rfl, rfl, rfl, by decide +kernel, rfl, by decide +kernel, by decide +kernel⟩
theorem ok_l_size (T : WorC fa fn ts cs w K mg) : Def P w K mg base 3 "_law_size" ["_law_state", "_law_bound"] [.v, .v] (fs_l_size K) :=
  T.def_ 3 (g := g_l_size K) sc_l_size (hbd := fun _ _ _ _ _ _ us hl => match us, hl with | [_, _], _ => rfl) (hmo := mo_l_size)
    (hbody := fun f cdv A outer s H E hr hgd => dss_cons (ds_set (p := false) 2 sc_l_size.nd (de_lstN (an_cons (dc_m ((ok_l_take T).mono (n := 2)) hr hgd (dak_cons (k := .v) (de_var 0) (dak_one (k := .v) (de_int)))) (an_cons (dc_m ((ok_l_take T).mono (n := 2)) hr hgd (dak_cons (k := .v) (de_var 0) (dak_one (k := .v) (de_int)))) (an_cons (dc_m ((ok_l_take T).mono (n := 2)) hr hgd (dak_cons (k := .v) (de_var 0) (dak_one (k := .v) (de_add (de_var 1) (de_int))))) (an_cons (de_int) (an_cons (de_var 1) (an_cons (de_int) an_nil))))))))
    (dss_one (ds_ret (p := false) (de_op od_mod (dc_m ((ok_l_pick T)) hr hgd (dak_cons (k := .v) (de_var 0) (dak_one (k := .v) (de_var 2)))) (de_add (de_var 1) (de_int))))))
    (hfs := h_l_size)
abbrev st_l_thing : Stmt := topS 42
abbrev nm_l_thing : List PySem.Str := ["_law_state", "_law_kind"]
theorem sc_l_thing : FnScope nm_l_thing ["_law_state", "_law_kind"] (defScope st_l_thing) := ⟨rfl, rfl, rfl, by decide +kernel, rfl, by decide +kernel, by decide +kernel⟩
theorem ok_l_thing (T : WorC fa fn ts cs w K mg) : Def P w K mg base 3 "_law_thing" ["_law_state", "_law_kind"] [.v, .v] (fs_l_thing K) :=
  T.def_ 4 (g := g_l_thing K) sc_l_thing (hbd := fun _ _ _ _ _ _ us hl => match us, hl with | [_, _], _ => rfl) (hmo := mo_l_thing)
    (hbody := fun f cdv A outer s H E hr hgd => dss_cons (ds_if (p := true) (dt_cmp (od_ltA (hu_ (n := 0) hr)) (de_var 1) (de_int)) (dss_one (ds_ret (p := false) (dc_m ((ok_l_take T).mono (n := 2)) hr hgd (dak_cons (k := .v) (de_var 0) (dak_one (k := .v) (de_ix (hu_ hr) (de_lstN (an_cons (de_int) (an_cons (de_int) an_nil))) (de_var 1))))))) (dss_nil))
    (dss_cons (ds_if (p := true) (dt_cmp (od_eqA (hu_ hr)) (de_var 1) (de_int)) (dss_one (ds_ret (p := false) (de_add (de_op od_mulI (de_int) (dc_m ((ok_l_take T).mono (n := 2)) hr hgd (dak_cons (k := .v) (de_var 0) (dak_one (k := .v) (de_int))))) (de_int)))) (dss_nil))
    (dss_cons (ds_if (p := true) (dt_cmp (od_eqA (hu_ hr)) (de_var 1) (de_int)) (dss_one (ds_ret (p := false) (dc_m ((ok_l_take T).mono (n := 2)) hr hgd (dak_cons (k := .v) (de_var 0) (dak_one (k := .v) (de_int)))))) (dss_nil))
    (dss_one (ds_ret (p := false) (dc_m ((ok_l_pick T)) hr hgd (dak_cons (k := .v) (de_var 0) (dak_one (k := .v) (de_lstN (an_cons (de_int) (an_cons (de_int) (an_cons (de_int) (an_cons (de_int) (an_cons (de_int) (an_cons (de_int) an_nil)))))))))))))))
    (hfs := h_l_thing)
abbrev st_l_set_4 : Stmt := topS 44
abbrev nm_l_set_4 : List PySem.Str := ["_law_state", "_law_bound", "_law_kind", "_law_found", "_law_k", "_law_thing_here"]
theorem sc_l_set_4 : FnScope nm_l_set_4 ["_law_state", "_law_bound"] (defScope st_l_set_4) := ⟨rfl, rfl, rfl, by decide +kernel, rfl, by decide +kernel, by decide +kernel⟩
theorem ok_l_set_4 (T : WorC fa fn ts cs w K mg) : Def P w K mg base 4 "_law_set" ["_law_state", "_law_bound"] [.v, .v] (fs_l_set_4 K) :=
  T.def_ 5 (g := g_l_set_4 K) sc_l_set_4 (hbd := fun _ _ _ _ _ _ us hl => match us, hl with | [_, _], _ => rfl) (hmo := mo_l_set_4)
    (hbody := fun f cdv A outer s H E hr hgd => dss_cons (ds_set (p := false) 2 sc_l_set_4.nd (dc_m ((ok_l_take T).mono (n := 3)) hr hgd (dak_cons (k := .v) (de_var 0) (dak_one (k := .v) (de_int)))))
    (dss_cons (ds_own (p := true) 3 sc_l_set_4.nd (df_lst (an_nil)))
    (dss_cons (ds_for (p := false) (passes_of rfl) rfl (di_range1 (by rfl) (T.free 36) (da_one (dc_m ((ok_l_size T)) hr hgd (dak_cons (k := .v) (de_var 0) (dak_one (k := .v) (de_var 1)))))) (dt_name 4 sc_l_set_4.nd) (dss_cons (ds_set (p := false) 5 sc_l_set_4.nd (dc_m ((ok_l_thing T)) hr hgd (dak_cons (k := .v) (de_var 0) (dak_one (k := .v) (de_var 2)))))
    (dss_one (ds_if (p := true) (dt_cmp (od_notin (hu_ hr)) (de_var 5) (de_varW 3)) (dss_one (ds_app (p := true) 3 (de_var 5))) (dss_nil)))))
    (dss_frz 3 (dss_one (ds_ret (p := true) (de_var 3)))))))
    (hfs := h_l_set_4)
abbrev st_Heap_form : Stmt := mthS 23 7
abbrev nm_Heap_form : List PySem.Str := ["self"]
theorem sc_Heap_form : FnScope nm_Heap_form ["self"] (defScope st_Heap_form) := ⟨rfl, rfl, rfl, by decide +kernel, rfl, by decide +kernel, by decide +kernel⟩
theorem ok_Heap_form (T : WorC fa fn ts cs w K mg) : DefM P w K mg base 1 (He.ga K "Heap") "form" [] (fs_Heap_form K) :=
  T.meth_ 29 46 49 (q := "Heap.form") (g := g_Heap_form K) sc_Heap_form (hbd := fun _ _ _ _ _ _ us hl => match us, hl with | [_], _ => rfl) (hmo := mo_Heap_form) 
    (hbody := fun f cdv A outer s H E hr hgd => dss_one (ds_ret (p := true) (de_callTy ca_tuple (by rfl) (T.free 41) (by decide +kernel) (da_one (de_drf (de_fld (de_var 0)))))))
    (hfs := h_Heap_form)
abbrev st_Tree_form : Stmt := mthS 34 8
abbrev nm_Tree_form : List PySem.Str := ["self"]
theorem sc_Tree_form : FnScope nm_Tree_form ["self"] (defScope st_Tree_form) := ⟨rfl, rfl, rfl, by decide +kernel, rfl, by decide +kernel, by decide +kernel⟩
theorem ok_Tree_form (T : WorC fa fn ts cs w K mg) : DefM P w K mg base 1 (He.ga K "Tree") "form" [] (fs_Tree_form K) :=
  T.meth_ 30 54 57 (q := "Tree.form") (g := g_Tree_form K) sc_Tree_form (hbd := fun _ _ _ _ _ _ us hl => match us, hl with | [_], _ => rfl) (hmo := mo_Tree_form) 
    (hbody := fun f cdv A outer s H E hr hgd => dss_one (ds_ret (p := true) (de_fld (de_var 0))))
    (hfs := h_Tree_form)
abbrev st_Pails_form_6 : Stmt := mthS 37 8
abbrev nm_Pails_form_6 : List PySem.Str := ["self", "pail"]
theorem sc_Pails_form_6 : FnScope nm_Pails_form_6 ["self"] (defScope st_Pails_form_6) := ⟨rfl, rfl, rfl, by decide +kernel, rfl, by decide +kernel, by decide +kernel⟩
theorem ok_Pails_form_6 (T : WorC fa fn ts cs w K mg) : DefM P w K mg base 2 (He.ga K "Pails") "form" [] (fs_Pails_form_6 K) :=
  T.meth_ 31 63 66 (q := "Pails.form") (g := g_Pails_form_6 K) sc_Pails_form_6 (hbd := fun _ _ _ _ _ _ us hl => match us, hl with | [_], _ => rfl) (hmo := mo_Pails_form_6) 
    (hbody := fun f cdv A outer s H E hr hgd => dss_one (ds_ret (p := false) (de_tupleS (by rfl) (T.free 41) (da_one ((df_compMM (p := false) (own := [("pail", 1)]) rfl sc_Pails_form_6.nd (de_fld (de_var 0)) (blkOk_by (N := nm_Pails_form_6) (sc := defScope st_Pails_form_6) (by decide +kernel)) (fun _ _ _ _ _ => dt_name 1 sc_Pails_form_6.nd) (fun _ _ _ _ _ => dtts_nil) (fun _ _ _ _ _ => de_meth0 (n := 1) (tbl := [(He.ga K "Heap", fs_Heap_form K)]) (tbl_cons (ok_Heap_form T) tbl_nil) hr hgd (de_var 1))).de)))))
    (hfs := h_Pails_form_6)
abbrev st_p_need_sort : Stmt := topS 14
abbrev nm_p_need_sort : List PySem.Str := ["sort"]
theorem sc_p_need_sort : FnScope nm_p_need_sort ["sort"] (defScope st_p_need_sort) := ⟨rfl, rfl, rfl, by decide +kernel, rfl, by decide +kernel, by decide +kernel⟩
theorem ok_p_need_sort (T : WorC fa fn ts cs w K mg) : Def P w K mg base 1 "need_sort" ["sort"] [.v] (fs_p_need_sort K) :=
  T.def_ 6 (g := g_p_need_sort K) sc_p_need_sort (hbd := fun _ _ _ _ _ _ us hl => match us, hl with | [_], _ => rfl) (hmo := mo_p_need_sort)
    (hbody := fun f cdv A outer s H E hr hgd => dss_one (ds_if (p := true) ((dw_or (dt_not (dt_tru (de_callB ca_isi (by rfl) (T.free 33) (by decide +kernel) (da_cons (de_var 0) (da_one (de_ty (by rfl) (T.free 40) (by decide +kernel))))))) (dw_or1 (dt_cmp (od_notinTab (T.tb 74 3)) (de_var 0) (dg_tab (T.tb 74 3))))).dt) (dss_one (ds_raise (T.exc 77))) (dss_nil)))
    (hfs := h_p_need_sort)
abbrev st_p_are_unlike : Stmt := topS 17
abbrev nm_p_are_unlike : List PySem.Str := ["things"]
theorem sc_p_are_unlike : FnScope nm_p_are_unlike ["things"] (defScope st_p_are_unlike) := ⟨rfl, rfl, rfl, by decide +kernel, rfl, by decide +kernel, by decide +kernel⟩
theorem ok_p_are_unlike (T : WorC fa fn ts cs w K mg) : Def P w K mg base 1 "are_unlike" ["things"] [.v] (fs_p_are_unlike K) :=
  T.def_ 7 (g := g_p_are_unlike K) sc_p_are_unlike (hbd := fun _ _ _ _ _ _ us hl => match us, hl with | [_], _ => rfl) (hmo := mo_p_are_unlike)
    (hbody := fun f cdv A outer s H E hr hgd => dss_one (ds_ret (p := true) (de_cmp (od_eqA (hu_ hr)) (de_lenSet rfl (by rfl) (T.free 34) (by rfl) (T.free 38) (de_var 0)) (de_callB ca_len (by rfl) (T.free 34) (by decide +kernel) (da_one (de_var 0))))))
    (hfs := h_p_are_unlike)
abbrev st_p_is_thing : Stmt := topS 15
abbrev nm_p_is_thing : List PySem.Str := ["thing"]
theorem sc_p_is_thing : FnScope nm_p_is_thing ["thing"] (defScope st_p_is_thing) := ⟨rfl, rfl, rfl, by decide +kernel, rfl, by decide +kernel, by decide +kernel⟩
theorem ok_p_is_thing (T : WorC fa fn ts cs w K mg) : Def P w K mg base 1 "is_thing" ["thing"] [.v] (fs_p_is_thing K) :=
  T.def_ 8 (g := g_p_is_thing K) sc_p_is_thing (hbd := fun _ _ _ _ _ _ us hl => match us, hl with | [_], _ => rfl) (hmo := mo_p_is_thing)
    (hbody := fun f cdv A outer s H E hr hgd => dss_one (ds_ret (p := true) (de_and (de_callB ca_isi (by rfl) (T.free 33) (by decide +kernel) (da_cons (de_var 0) (da_one (de_ty (by rfl) (T.free 32) (by decide +kernel))))) (de_and (de_not (de_callB ca_isi (by rfl) (T.free 33) (by decide +kernel) (da_cons (de_var 0) (da_one (de_ty (by rfl) (T.free 31) (by decide +kernel)))))) (de_one (de_chain od_le od_le (de_int) (de_var 0) (dg_int (T.int 43))))))))
    (hfs := h_p_is_thing)
abbrev st_p_is_pair : Stmt := topS 16
abbrev nm_p_is_pair : List PySem.Str := ["thing"]
theorem sc_p_is_pair : FnScope nm_p_is_pair ["thing"] (defScope st_p_is_pair) := ⟨rfl, rfl, rfl, by decide +kernel, rfl, by decide +kernel, by decide +kernel⟩
theorem ok_p_is_pair (T : WorC fa fn ts cs w K mg) : Def P w K mg base 2 "is_pair" ["thing"] [.v] (fs_p_is_pair K) :=
  T.def_ 9 (g := g_p_is_pair K) sc_p_is_pair (hbd := fun _ _ _ _ _ _ us hl => match us, hl with | [_], _ => rfl) (hmo := mo_p_is_pair)
    (hbody := fun f cdv A outer s H E hr hgd => dss_one (ds_ret (p := true) (de_and (de_callB ca_isi (by rfl) (T.free 33) (by decide +kernel) (da_cons (de_var 0) (da_one (de_ty (by rfl) (T.free 41) (by decide +kernel))))) (de_and (de_cmp (od_eqA (hu_ hr)) (de_callB ca_len (by rfl) (T.free 34) (by decide +kernel) (da_one (de_var 0))) (de_int)) (de_and (dc_p ((ok_p_is_thing T)) hr hgd (dak_one (k := .v) (de_ix (hu_ hr) (de_var 0) (de_int)))) (de_one (dc_p ((ok_p_is_thing T)) hr hgd (dak_one (k := .v) (de_ix (hu_ hr) (de_var 0) (de_int))))))))))
    (hfs := h_p_is_pair)
abbrev st_p_is_things : Stmt := topS 18
abbrev nm_p_is_things : List PySem.Str := ["sort", "thing", "one"]
theorem sc_p_is_things : FnScope nm_p_is_things ["sort", "thing"] (defScope st_p_is_things) := ⟨rfl, rfl, rfl, by decide +kernel, rfl, by decide +kernel, by decide +kernel⟩
theorem ok_p_is_things (T : WorC fa fn ts cs w K mg) : Def P w K mg base 3 "is_things" ["sort", "thing"] [.v, .v] (fs_p_is_things K) :=
  T.def_ 10 (g := g_p_is_things K) sc_p_is_things (hbd := fun _ _ _ _ _ _ us hl => match us, hl with | [_, _], _ => rfl) (hmo := mo_p_is_things)
    (hbody := fun f cdv A outer s H E hr hgd => dss_cons (ds_expr (p := true) (dc_p ((ok_p_need_sort T).mono (n := 2)) hr hgd (dak_one (k := .v) (de_var 0))))
    (dss_cons (ds_if (p := true) ((dw_or (dt_not (dt_tru (de_callB ca_isi (by rfl) (T.free 33) (by decide +kernel) (da_cons (de_var 1) (da_one (de_ty (by rfl) (T.free 41) (by decide +kernel))))))) (dw_or1 (dt_cmp od_gt (de_callB ca_len (by rfl) (T.free 34) (by decide +kernel) (da_one (de_var 1))) (dg_int (T.int 42))))).dt) (dss_one (ds_ret (p := true) (de_bl))) (dss_nil))
    (dss_cons (ds_if (p := true) (dt_cmp (od_eqA (hu_ hr)) (de_var 0) (de_str)) (dss_one (ds_ret (p := true) (de_and (de_callB (ca_all (cr_all rfl)) (by rfl) (T.free 30) (by decide +kernel) (da_one ((df_comp (own := [("one", 2)]) rfl sc_p_is_things.nd (di_seq (de_var 1)) (blkOk_by (N := nm_p_is_things) (sc := defScope st_p_is_things) (by decide +kernel)) (fun _ _ _ _ _ => dt_name 2 sc_p_is_things.nd) (fun _ _ _ _ _ => dtts_nil) (fun _ _ _ _ _ => dc_p ((ok_p_is_pair T)) hr hgd (dak_one (k := .v) (de_var 2)))).de))) (de_one (dc_p ((ok_p_are_unlike T).mono (n := 2)) hr hgd (dak_one (k := .v) ((df_comp (own := [("one", 2)]) rfl sc_p_is_things.nd (di_seq (de_var 1)) (blkOk_by (N := nm_p_is_things) (sc := defScope st_p_is_things) (by decide +kernel)) (fun _ _ _ _ _ => dt_name 2 sc_p_is_things.nd) (fun _ _ _ _ _ => dtts_nil) (fun _ _ _ _ _ => de_ix (hu_ hr) (de_var 2) (de_int))).de))))))) (dss_nil))
    (dss_cons (ds_if (p := true) (dt_not (dt_tru (de_callB (ca_all (cr_all rfl)) (by rfl) (T.free 30) (by decide +kernel) (da_one ((df_comp (own := [("one", 2)]) rfl sc_p_is_things.nd (di_seq (de_var 1)) (blkOk_by (N := nm_p_is_things) (sc := defScope st_p_is_things) (by decide +kernel)) (fun _ _ _ _ _ => dt_name 2 sc_p_is_things.nd) (fun _ _ _ _ _ => dtts_nil) (fun _ _ _ _ _ => dc_p ((ok_p_is_thing T).mono (n := 2)) hr hgd (dak_one (k := .v) (de_var 2)))).de))))) (dss_one (ds_ret (p := true) (de_bl))) (dss_nil))
    (dss_one (ds_ret (p := true) (de_or (de_cmp (od_eqA (hu_ hr)) (de_var 0) (de_str)) (de_one (dc_p ((ok_p_are_unlike T).mono (n := 2)) hr hgd (dak_one (k := .v) (de_var 1)))))))))))
    (hfs := h_p_is_things)
abbrev st_p_need_set : Stmt := topS 21
abbrev nm_p_need_set : List PySem.Str := ["things"]
theorem sc_p_need_set : FnScope nm_p_need_set ["things"] (defScope st_p_need_set) := ⟨rfl, rfl, rfl, by decide +kernel, rfl, by decide +kernel, by decide +kernel⟩
theorem ok_p_need_set (T : WorC fa fn ts cs w K mg) : Def P w K mg base 4 "need_set" ["things"] [.v] (fs_p_need_set K) :=
  T.def_ 11 (g := g_p_need_set K) sc_p_need_set (hbd := fun _ _ _ _ _ _ us hl => match us, hl with | [_], _ => rfl) (hmo := mo_p_need_set)
    (hbody := fun f cdv A outer s H E hr hgd => dss_one (ds_if (p := true) (dt_not (dt_tru (dc_p ((ok_p_is_things T)) hr hgd (dak_cons (k := .v) (de_str) (dak_one (k := .v) (de_var 0)))))) (dss_one (ds_raise (T.exc 79))) (dss_nil)))
    (hfs := h_p_need_set)
abbrev st_p_turn_of : Stmt := topS 25
abbrev nm_p_turn_of : List PySem.Str := ["thing"]
theorem sc_p_turn_of : FnScope nm_p_turn_of ["thing"] (defScope st_p_turn_of) := ⟨rfl, rfl, rfl, by decide +kernel, rfl, by decide +kernel, by decide +kernel⟩
theorem ok_p_turn_of (T : WorC fa fn ts cs w K mg) : Def P w K mg base 1 "turn_of" ["thing"] [.v] (fs_p_turn_of K) :=
  T.def_ 12 (g := g_p_turn_of K) sc_p_turn_of (hbd := fun _ _ _ _ _ _ us hl => match us, hl with | [_], _ => rfl) (hmo := mo_p_turn_of)
    (hbody := fun f cdv A outer s H E hr hgd => dss_one (ds_ret (p := true) (de_tupN (an_cons (de_op od_sub (de_int) (de_op od_mod (de_add (de_op od_mulI (de_var 0) (de_int)) (de_int)) (de_int))) (an_cons (de_var 0) an_nil)))))
    (hfs := h_p_turn_of)
abbrev st_p_is_upper : Stmt := topS 26
abbrev nm_p_is_upper : List PySem.Str := ["one", "other"]
theorem sc_p_is_upper : FnScope nm_p_is_upper ["one", "other"] (defScope st_p_is_upper) := ⟨rfl, rfl, rfl, by decide +kernel, rfl, by decide +kernel, by decide +kernel⟩
theorem ok_p_is_upper (T : WorC fa fn ts cs w K mg) : Def P w K mg base 2 "is_upper" ["one", "other"] [.v, .v] (fs_p_is_upper K) :=
  T.def_ 13 (g := g_p_is_upper K) sc_p_is_upper (hbd := fun _ _ _ _ _ _ us hl => match us, hl with | [_, _], _ => rfl) (hmo := mo_p_is_upper)
    (hbody := fun f cdv A outer s H E hr hgd => dss_one (ds_ret (p := true) (de_cmp (od_ltA (hu_ (n := 0) hr)) (dc_p ((ok_p_turn_of T)) hr hgd (dak_one (k := .v) (de_var 0))) (dc_p ((ok_p_turn_of T)) hr hgd (dak_one (k := .v) (de_var 1))))))
    (hfs := h_p_is_upper)
abbrev st_p_parted : Stmt := topS 27
abbrev nm_p_parted : List PySem.Str := ["node", "thing", "top", "first", "second", "below", "above"]
theorem sc_p_parted : FnScope nm_p_parted ["node", "thing"] (defScope st_p_parted) := ⟨rfl, rfl, rfl, by decide +kernel, rfl, by decide +kernel, by decide +kernel⟩
theorem okr_p_parted (T : WorC fa fn ts cs w K mg) : ∀ k, Def P w K mg base (0 + k) "parted" ["node", "thing"] [.v, .v] (fsr_p_parted K k) :=
  T.rec_ 14 (g := fun k => g_p_parted K k) sc_p_parted (hbd := fun _ _ _ _ _ _ us hl => match us, hl with | [_, _], _ => rfl) (hmo := mor_p_parted) (hno := no_p_parted)
    (hbody := fun k ih f cdv A outer s H E hr hgd => dss_cons (ds_if (p := true) (dt_cmp (od_eqE (hu_ hr)) (de_var 0) (de_tupN (an_nil))) (dss_one (ds_ret (p := true) (de_tupN (an_cons (de_tupN (an_nil)) (an_cons (de_tupN (an_nil)) an_nil))))) (dss_nil))
    (dss_cons (ds_asg (p := true) (de_var 0) (dt_tup rfl (dts_cons (dt_name 2 sc_p_parted.nd) (dts_cons (dt_name 3 sc_p_parted.nd) (dts_cons (dt_name 4 sc_p_parted.nd) dts_nil)))))
    (dss_cons (ds_if (p := true) (dt_cmp (od_ltA (hu_ (n := 0) hr)) (de_var 1) (de_var 2)) (dss_cons (ds_asg (p := true) (dc_p (ih) hr hgd (dak_cons (k := .v) (de_var 3) (dak_one (k := .v) (de_var 1)))) (dt_tup rfl (dts_cons (dt_name 5 sc_p_parted.nd) (dts_cons (dt_name 6 sc_p_parted.nd) dts_nil))))
    (dss_one (ds_ret (p := true) (de_tupN (an_cons (de_var 5) (an_cons (de_tupN (an_cons (de_var 2) (an_cons (de_var 6) (an_cons (de_var 4) an_nil)))) an_nil)))))) (dss_nil))
    (dss_cons (ds_asg (p := true) (dc_p (ih) hr hgd (dak_cons (k := .v) (de_var 4) (dak_one (k := .v) (de_var 1)))) (dt_tup rfl (dts_cons (dt_name 5 sc_p_parted.nd) (dts_cons (dt_name 6 sc_p_parted.nd) dts_nil))))
    (dss_one (ds_ret (p := true) (de_tupN (an_cons (de_tupN (an_cons (de_var 2) (an_cons (de_var 3) (an_cons (de_var 5) an_nil)))) (an_cons (de_var 6) an_nil)))))))))
    (hfs := h_p_parted)
theorem ok_p_parted (T : WorC fa fn ts cs w K mg) : Def P w K mg base 45 "parted" ["node", "thing"] [.v, .v] (fs_p_parted K) := okr_p_parted T 45
abbrev st_p_with_thing : Stmt := topS 29
abbrev nm_p_with_thing : List PySem.Str := ["node", "thing"]
theorem sc_p_with_thing : FnScope nm_p_with_thing ["node", "thing"] (defScope st_p_with_thing) := ⟨rfl, rfl, rfl, by decide +kernel, rfl, by decide +kernel, by decide +kernel⟩
theorem okr_p_with_thing (T : WorC fa fn ts cs w K mg) : ∀ k, Def P w K mg base (45 + k) "with_thing" ["node", "thing"] [.v, .v] (fsr_p_with_thing K k) :=
  T.rec_ 15 (g := fun k => g_p_with_thing K k) sc_p_with_thing (hbd := fun _ _ _ _ _ _ us hl => match us, hl with | [_, _], _ => rfl) (hmo := mor_p_with_thing) (hno := no_p_with_thing)
    (hbody := fun k ih f cdv A outer s H E hr hgd => dss_cons (ds_if (p := true) ((dw_or (dt_cmp (od_eqE (hu_ hr)) (de_var 0) (de_tupN (an_nil))) (dw_or1 (dt_tru (dc_p ((ok_p_is_upper T).mono (n := 45 + k) (by omega)) hr hgd (dak_cons (k := .v) (de_var 1) (dak_one (k := .v) (de_ix (hu_ hr) (de_var 0) (de_int)))))))).dt) (dss_one (ds_ret (p := true) (de_add (de_tupN (an_cons (de_var 1) an_nil)) (dc_p ((ok_p_parted T).mono (n := 45 + k) (by omega)) hr hgd (dak_cons (k := .v) (de_var 0) (dak_one (k := .v) (de_var 1))))))) (dss_nil))
    (dss_cons (ds_if (p := true) (dt_cmp (od_ltA (hu_ (n := 0) hr)) (de_var 1) (de_ix (hu_ hr) (de_var 0) (de_int))) (dss_one (ds_ret (p := true) (de_tupN (an_cons (de_ix (hu_ hr) (de_var 0) (de_int)) (an_cons (dc_p (ih) hr hgd (dak_cons (k := .v) (de_ix (hu_ hr) (de_var 0) (de_int)) (dak_one (k := .v) (de_var 1)))) (an_cons (de_ix (hu_ hr) (de_var 0) (de_int)) an_nil)))))) (dss_nil))
    (dss_one (ds_ret (p := true) (de_tupN (an_cons (de_ix (hu_ hr) (de_var 0) (de_int)) (an_cons (de_ix (hu_ hr) (de_var 0) (de_int)) (an_cons (dc_p (ih) hr hgd (dak_cons (k := .v) (de_ix (hu_ hr) (de_var 0) (de_int)) (dak_one (k := .v) (de_var 1)))) an_nil))))))))
    (hfs := h_p_with_thing)
theorem ok_p_with_thing (T : WorC fa fn ts cs w K mg) : Def P w K mg base 90 "with_thing" ["node", "thing"] [.v, .v] (fs_p_with_thing K) := okr_p_with_thing T 45
abbrev st_Tree___init__ : Stmt := mthS 34 0
abbrev nm_Tree___init__ : List PySem.Str := ["self", "things", "thing"]
theorem sc_Tree___init__ : FnScope nm_Tree___init__ ["self", "things"] (defScope st_Tree___init__) := ⟨rfl, rfl, rfl, by decide +kernel, rfl, by decide +kernel, by decide +kernel⟩
theorem ok_Tree___init__ (T : WorC fa fn ts cs w K mg) : DefI P w K mg base 91 "Tree" (He.ga K "Tree") [.v] (Fk_Tree K) (fs_Tree___init__ K) :=
  T.init_ 32 53 55 (q := "Tree.__init__") (g := g_Tree___init__ K) sc_Tree___init__ (hbd := fun _ _ _ _ _ _ us hl => match us, hl with | [_, _], _ => rfl) (hmo := mo_Tree___init__) (hF := ⟨T.cls 54, T.noat 56⟩)
    (hbody := fun f cdv A outer s H E hr hgd => dss_cons (ds_expr (p := true) (dc_p ((ok_p_need_set T).mono (n := 90)) hr hgd (dak_one (k := .v) (de_var 1))))
    (dss_cons (ds_fld (p := true) (de_var 0) (de_tupN (an_nil)))
    (dss_one (ds_for (p := true) (passes_of rfl) rfl (di_seq (de_var 1)) (dt_name 2 sc_Tree___init__.nd) (dss_one (ds_fld (p := true) (de_var 0) (dc_p ((ok_p_with_thing T)) hr hgd (dak_cons (k := .v) (de_fld (de_var 0)) (dak_one (k := .v) (de_var 2))))))))))
    (hfs := h_Tree___init__)
abbrev st_Heap___init__ : Stmt := mthS 23 0
abbrev nm_Heap___init__ : List PySem.Str := ["self", "things"]
theorem sc_Heap___init__ : FnScope nm_Heap___init__ ["self", "things"] (defScope st_Heap___init__) := ⟨rfl, rfl, rfl, by decide +kernel, rfl, by decide +kernel, by decide +kernel⟩
theorem ok_Heap___init__ (T : WorC fa fn ts cs w K mg) : DefI P w K mg base 5 "Heap" (He.ga K "Heap") [.v] (Fk_Heap K) (fs_Heap___init__ K) :=
  T.init_ 33 45 47 (q := "Heap.__init__") (g := g_Heap___init__ K) sc_Heap___init__ (hbd := fun _ _ _ _ _ _ us hl => match us, hl with | [_, _], _ => rfl) (hmo := mo_Heap___init__) (hF := ⟨T.cls 46, T.noat 48⟩)
    (hbody := fun f cdv A outer s H E hr hgd => dss_cons (ds_expr (p := true) (dc_p ((ok_p_need_set T)) hr hgd (dak_one (k := .v) (de_var 1))))
    (dss_one (ds_fldM (p := true) (de_var 0) (df_list rfl (de_var 1) (by rfl) (T.free 35)))))
    (hfs := h_Heap___init__)
abbrev st_Pails___init__ : Stmt := mthS 37 0
abbrev nm_Pails___init__ : List PySem.Str := ["self", "things", "at", "x"]
theorem sc_Pails___init__ : FnScope nm_Pails___init__ ["self", "things"] (defScope st_Pails___init__) := ⟨rfl, rfl, rfl, by decide +kernel, rfl, by decide +kernel, by decide +kernel⟩
theorem ok_Pails___init__ (T : WorC fa fn ts cs w K mg) : DefI P w K mg base 7 "Pails" (He.ga K "Pails") [.v] (Fk_Pails K) (fs_Pails___init__ K) :=
  T.init_ 34 62 64 (q := "Pails.__init__") (g := g_Pails___init__ K) sc_Pails___init__ (hbd := fun _ _ _ _ _ _ us hl => match us, hl with | [_, _], _ => rfl) (hmo := mo_Pails___init__) (hF := ⟨T.cls 63, T.noat 65⟩)
    (hbody := fun f cdv A outer s H E hr hgd => dss_cons (ds_expr (p := true) (dc_p ((ok_p_need_set T).mono (n := 6)) hr hgd (dak_one (k := .v) (de_var 1))))
    (dss_cons (ds_fldM (p := true) (de_var 0) (df_lst (an_nil)))
    (dss_one (ds_for (p := true) (passes_of rfl) rfl (di_range1 (by rfl) (T.free 36) (da_one (dg_int (T.int 44)))) (dt_name 2 sc_Pails___init__.nd) (dss_one (ds_mapp (p := false) (de_fld (de_var 0)) (de_make (n := 5) ((ok_Heap___init__ T)) hr hgd (dak_one (k := .v) (de_tupleS (by rfl) (T.free 41) (da_one ((df_comp (own := [("x", 3)]) rfl sc_Pails___init__.nd (di_seq (de_var 1)) (blkOk_by (N := nm_Pails___init__) (sc := defScope st_Pails___init__) (by decide +kernel)) (fun _ _ _ _ _ => dt_name 3 sc_Pails___init__.nd) (fun _ _ _ _ _ => dtts_one (dt_cmp (od_eqA (hu_ hr)) (de_op od_mod (de_var 3) (dg_int (T.int 44))) (de_var 2))) (fun _ _ _ _ _ => de_var 3)).de)))))))))))
    (hfs := h_Pails___init__)
abbrev st_p_need_member : Stmt := topS 22
abbrev nm_p_need_member : List PySem.Str := ["x"]
theorem sc_p_need_member : FnScope nm_p_need_member ["x"] (defScope st_p_need_member) := ⟨rfl, rfl, rfl, by decide +kernel, rfl, by decide +kernel, by decide +kernel⟩
theorem ok_p_need_member (T : WorC fa fn ts cs w K mg) : Def P w K mg base 2 "need_member" ["x"] [.v] (fs_p_need_member K) :=
  T.def_ 16 (g := g_p_need_member K) sc_p_need_member (hbd := fun _ _ _ _ _ _ us hl => match us, hl with | [_], _ => rfl) (hmo := mo_p_need_member)
    (hbody := fun f cdv A outer s H E hr hgd => dss_one (ds_if (p := true) (dt_not (dt_tru (dc_p ((ok_p_is_thing T)) hr hgd (dak_one (k := .v) (de_var 0))))) (dss_one (ds_raise (T.exc 75))) (dss_nil)))
    (hfs := h_p_need_member)
abbrev st_p_need_place : Stmt := topS 19
abbrev nm_p_need_place : List PySem.Str := ["things"]
theorem sc_p_need_place : FnScope nm_p_need_place ["things"] (defScope st_p_need_place) := ⟨rfl, rfl, rfl, by decide +kernel, rfl, by decide +kernel, by decide +kernel⟩
theorem ok_p_need_place (T : WorC fa fn ts cs w K mg) : Def P w K mg base 1 "need_place" ["things"] [.b] (fs_p_need_place K) :=
  T.def_ 17 (g := g_p_need_place K) sc_p_need_place (hbd := fun _ _ _ _ _ _ us hl => match us, hl with | [_], _ => rfl) (hmo := mo_p_need_place)
    (hbody := fun f cdv A outer s H E hr hgd => dss_one (ds_if (p := true) (dt_cmp (od_eqA (hu_ hr)) (de_callB ca_len (by rfl) (T.free 34) (by decide +kernel) (da_one (de_varW 0))) (dg_int (T.int 42))) (dss_one (ds_raise (T.exc 81))) (dss_nil)))
    (hfs := h_p_need_place)
abbrev st_Heap_looks : Stmt := mthS 23 1
abbrev nm_Heap_looks : List PySem.Str := ["self", "x"]
theorem sc_Heap_looks : FnScope nm_Heap_looks ["self", "x"] (defScope st_Heap_looks) := ⟨rfl, rfl, rfl, by decide +kernel, rfl, by decide +kernel, by decide +kernel⟩
theorem ok_Heap_looks (T : WorC fa fn ts cs w K mg) : DefM P w K mg base 1 (He.ga K "Heap") "looks" [.v] (fs_Heap_looks K) :=
  T.meth_ 35 46 50 (q := "Heap.looks") (g := g_Heap_looks K) sc_Heap_looks (hbd := fun _ _ _ _ _ _ us hl => match us, hl with | [_, _], _ => rfl) (hmo := mo_Heap_looks) 
    (hbody := fun f cdv A outer s H E hr hgd => dss_cons (ds_if (p := true) (dt_cmp (od_in (hu_ hr)) (de_var 1) (de_drf (de_fld (de_var 0)))) (dss_one (ds_ret (p := true) (de_add (de_mindex rfl (hu_ hr) (de_fld (de_var 0)) (de_var 1)) (de_int)))) (dss_nil))
    (dss_one (ds_ret (p := true) (de_callB ca_len (by rfl) (T.free 34) (by decide +kernel) (da_one (de_drf (de_fld (de_var 0))))))))
    (hfs := h_Heap_looks)
abbrev st_Heap_put : Stmt := mthS 23 2
abbrev nm_Heap_put : List PySem.Str := ["self", "x", "steps"]
theorem sc_Heap_put : FnScope nm_Heap_put ["self", "x"] (defScope st_Heap_put) := ⟨rfl, rfl, rfl, by decide +kernel, rfl, by decide +kernel, by decide +kernel⟩
theorem ok_Heap_put (T : WorC fa fn ts cs w K mg) : DefM P w K mg base 3 (He.ga K "Heap") "put" [.v] (fs_Heap_put K) :=
  T.meth_ 36 46 51 (q := "Heap.put") (g := g_Heap_put K) sc_Heap_put (hbd := fun _ _ _ _ _ _ us hl => match us, hl with | [_, _], _ => rfl) (hmo := mo_Heap_put) 
    (hbody := fun f cdv A outer s H E hr hgd => dss_cons (ds_expr (p := true) (dc_p ((ok_p_need_member T)) hr hgd (dak_one (k := .v) (de_var 1))))
    (dss_cons (ds_set (p := false) 2 sc_Heap_put.nd (de_add (de_int) (de_meth (n := 2) (tbl := [(He.ga K "Heap", fs_Heap_looks K)]) (tbl_cons ((ok_Heap_looks T).mono (n := 2)) tbl_nil) hr hgd (de_var 0) (dak_one (k := .v) (de_var 1)))))
    (dss_cons (ds_if (p := true) (dt_cmp (od_in (hu_ hr)) (de_var 1) (de_drf (de_fld (de_var 0)))) (dss_one (ds_ret (p := true) (de_tupN (an_cons (de_int) (an_cons (de_var 2) an_nil))))) (dss_nil))
    (dss_cons (ds_expr (p := true) (dc_p ((ok_p_need_place T).mono (n := 2)) hr hgd (dak_one (k := .b) (de_drf (de_fld (de_var 0))))))
    (dss_cons (ds_mapp (p := true) (de_fld (de_var 0)) (de_var 1))
    (dss_one (ds_ret (p := true) (de_tupN (an_cons (de_int) (an_cons (de_add (de_var 2) (de_int)) an_nil))))))))))
    (hfs := h_Heap_put)
abbrev st_p_way_of : Stmt := topS 33
abbrev nm_p_way_of : List PySem.Str := ["form", "thing", "found", "node"]
theorem sc_p_way_of : FnScope nm_p_way_of ["form", "thing"] (defScope st_p_way_of) := ⟨rfl, rfl, rfl, by decide +kernel, rfl, by decide +kernel, by decide +kernel⟩
theorem ok_p_way_of (T : WorC fa fn ts cs w K mg) : Def P w K mg base 1 "way_of" ["form", "thing"] [.v, .v] (fs_p_way_of K) :=
  T.def_ 18 (g := g_p_way_of K) sc_p_way_of (hbd := fun _ _ _ _ _ _ us hl => match us, hl with | [_, _], _ => rfl) (hmo := mo_p_way_of)
    (hbody := fun f cdv A outer s H E hr hgd => dss_cons (ds_own (p := true) 2 sc_p_way_of.nd (df_lst (an_nil)))
    (dss_cons (ds_set (p := true) 3 sc_p_way_of.nd (de_var 0))
    (dss_cons (ds_while (p := true) (passes_of rfl) (dt_cmp (od_neE (hu_ hr)) (de_var 3) (de_tupN (an_nil))) (dss_cons (ds_app (p := true) 2 (de_var 3))
    (dss_cons (ds_if (p := true) (dt_cmp (od_eqA (hu_ hr)) (de_ix (hu_ hr) (de_var 3) (de_int)) (de_var 1)) (dss_frz 2 (dss_one (ds_ret (p := true) (de_var 2)))) (dss_nil))
    (dss_one (ds_set (p := true) 3 sc_p_way_of.nd (de_ix (hu_ hr) (de_var 3) (de_add (de_int) (de_callTy ca_int (by rfl) (T.free 32) (by decide +kernel) (da_one (de_cmp od_gt (de_var 1) (de_ix (hu_ hr) (de_var 3) (de_int))))))))))))
    (dss_frz 2 (dss_one (ds_ret (p := true) (de_var 2)))))))
    (hfs := h_p_way_of)
abbrev st_Tree_looked : Stmt := mthS 34 1
abbrev nm_Tree_looked : List PySem.Str := ["self", "thing", "found"]
theorem sc_Tree_looked : FnScope nm_Tree_looked ["self", "thing"] (defScope st_Tree_looked) := ⟨rfl, rfl, rfl, by decide +kernel, rfl, by decide +kernel, by decide +kernel⟩
theorem ok_Tree_looked (T : WorC fa fn ts cs w K mg) : DefM P w K mg base 3 (He.ga K "Tree") "looked" [.v] (fs_Tree_looked K) :=
  T.meth_ 37 54 58 (q := "Tree.looked") (g := g_Tree_looked K) sc_Tree_looked (hbd := fun _ _ _ _ _ _ us hl => match us, hl with | [_, _], _ => rfl) (hmo := mo_Tree_looked) 
    (hbody := fun f cdv A outer s H E hr hgd => dss_cons (ds_expr (p := true) (dc_p ((ok_p_need_member T)) hr hgd (dak_one (k := .v) (de_var 1))))
    (dss_cons (ds_set (p := true) 2 sc_Tree_looked.nd (dc_p ((ok_p_way_of T).mono (n := 2)) hr hgd (dak_cons (k := .v) (de_fld (de_var 0)) (dak_one (k := .v) (de_var 1)))))
    (dss_one (ds_ret (p := true) (de_tupN (an_cons (de_and (de_cmp (od_neE (hu_ hr)) (de_var 2) (de_lstN (an_nil))) (de_one (de_cmp (od_eqA (hu_ hr)) (de_ix (hu_ hr) (de_ix (hu_ hr) (de_var 2) (de_un ud_neg (de_int))) (de_int)) (de_var 1)))) (an_cons (de_add (de_int) (de_callB ca_len (by rfl) (T.free 34) (by decide +kernel) (da_one (de_var 2)))) an_nil)))))))
    (hfs := h_Tree_looked)
abbrev st_p_need_place_d : Stmt := topS 19
abbrev nm_p_need_place_d : List PySem.Str := ["things"]
theorem sc_p_need_place_d : FnScope nm_p_need_place_d ["things"] (defScope st_p_need_place_d) := ⟨rfl, rfl, rfl, by decide +kernel, rfl, by decide +kernel, by decide +kernel⟩
theorem ok_p_need_place_d (T : WorC fa fn ts cs w K mg) : Def P w K mg base 1 "need_place" ["things"] [.v] (fs_p_need_place_d K) :=
  T.def_ 17 (g := g_p_need_place_d K) sc_p_need_place_d (hbd := fun _ _ _ _ _ _ us hl => match us, hl with | [_], _ => rfl) (hmo := mo_p_need_place_d)
    (hbody := fun f cdv A outer s H E hr hgd => dss_one (ds_if (p := true) (dt_cmp (od_eqA (hu_ hr)) (de_callB ca_len (by rfl) (T.free 34) (by decide +kernel) (da_one (de_var 0))) (dg_int (T.int 42))) (dss_one (ds_raise (T.exc 81))) (dss_nil)))
    (hfs := h_p_need_place_d)
abbrev st_p_nodes : Stmt := topS 31
abbrev nm_p_nodes : List PySem.Str := ["form", "found", "waiting", "node"]
theorem sc_p_nodes : FnScope nm_p_nodes ["form"] (defScope st_p_nodes) := ⟨rfl, rfl, rfl, by decide +kernel, rfl, by decide +kernel, by decide +kernel⟩
theorem ok_p_nodes (T : WorC fa fn ts cs w K mg) : Def P w K mg base 1 "nodes" ["form"] [.v] (fs_p_nodes K) :=
  T.def_ 19 (g := g_p_nodes K) sc_p_nodes (hbd := fun _ _ _ _ _ _ us hl => match us, hl with | [_], _ => rfl) (hmo := mo_p_nodes)
    (hbody := fun f cdv A outer s H E hr hgd => dss_cons (ds_own (p := true) 1 sc_p_nodes.nd (df_dic0))
    (dss_cons (ds_own (p := true) 2 sc_p_nodes.nd (df_lst (an_cons (de_var 0) an_nil)))
    (dss_cons (ds_while (p := true) (passes_of rfl) (dt_cmp (od_neE (hu_ hr)) (de_varW 2) (de_lstN (an_nil))) (dss_cons (ds_popS 2 3 sc_p_nodes.nd)
    (dss_one (ds_if (p := true) (dt_cmp (od_neE (hu_ hr)) (de_var 3) (de_tupN (an_nil))) (dss_cons (ds_oput (p := true) 1 (hu_ hr) (de_var 3) (de_ix (hu_ hr) (de_var 3) (de_int)))
    (dss_one (ds_extT (p := true) 2 (de_sl (de_var 3) (do_some (de_int)) (do_none))))) (dss_nil)))))
    (dss_frz 1 (dss_one (ds_ret (p := true) (de_var 1)))))))
    (hfs := h_p_nodes)
abbrev st_p_new_nodes : Stmt := topS 32
abbrev nm_p_new_nodes : List PySem.Str := ["ahead", "behind", "known", "found", "top"]
theorem sc_p_new_nodes : FnScope nm_p_new_nodes ["ahead", "behind"] (defScope st_p_new_nodes) := ⟨rfl, rfl, rfl, by decide +kernel, rfl, by decide +kernel, by decide +kernel⟩
theorem ok_p_new_nodes (T : WorC fa fn ts cs w K mg) : Def P w K mg base 2 "new_nodes" ["ahead", "behind"] [.v, .v] (fs_p_new_nodes K) :=
  T.def_ 20 (g := g_p_new_nodes K) sc_p_new_nodes (hbd := fun _ _ _ _ _ _ us hl => match us, hl with | [_, _], _ => rfl) (hmo := mo_p_new_nodes)
    (hbody := fun f cdv A outer s H E hr hgd => dss_cons (ds_set (p := true) 2 sc_p_new_nodes.nd (dc_p ((ok_p_nodes T)) hr hgd (dak_one (k := .v) (de_var 0))))
    (dss_cons (ds_set (p := true) 3 sc_p_new_nodes.nd (dc_p ((ok_p_nodes T)) hr hgd (dak_one (k := .v) (de_var 1))))
    (dss_one (ds_ret (p := true) (de_callB ca_len (by rfl) (T.free 34) (by decide +kernel) (da_one ((df_comp (own := [("top", 4)]) rfl sc_p_new_nodes.nd (di_keys (de_var 3)) (blkOk_by (N := nm_p_new_nodes) (sc := defScope st_p_new_nodes) (by decide +kernel)) (fun _ _ _ _ _ => dt_name 4 sc_p_new_nodes.nd) (fun _ _ _ _ _ => dtts_one (dt_cmp (od_neA (hu_ hr)) (de_dget1 (hu_ hr) (de_var 2) (de_var 4)) (de_ix (hu_ hr) (de_var 3) (de_var 4)))) (fun _ _ _ _ _ => de_var 4)).de)))))))
    (hfs := h_p_new_nodes)
abbrev st_Tree_change : Stmt := mthS 34 2
abbrev nm_Tree_change : List PySem.Str := ["self", "behind", "moves"]
theorem sc_Tree_change : FnScope nm_Tree_change ["self", "behind"] (defScope st_Tree_change) := ⟨rfl, rfl, rfl, by decide +kernel, rfl, by decide +kernel, by decide +kernel⟩
theorem ok_Tree_change (T : WorC fa fn ts cs w K mg) : DefM P w K mg base 3 (He.ga K "Tree") "change" [.v] (fs_Tree_change K) :=
  T.meth_ 38 54 59 (q := "Tree.change") (g := g_Tree_change K) sc_Tree_change (hbd := fun _ _ _ _ _ _ us hl => match us, hl with | [_, _], _ => rfl) (hmo := mo_Tree_change) 
    (hbody := fun f cdv A outer s H E hr hgd => dss_cons (ds_set (p := true) 2 sc_Tree_change.nd (dc_p ((ok_p_new_nodes T)) hr hgd (dak_cons (k := .v) (de_fld (de_var 0)) (dak_one (k := .v) (de_var 1)))))
    (dss_cons (ds_fld (p := true) (de_var 0) (de_var 1))
    (dss_one (ds_ret (p := true) (de_var 2)))))
    (hfs := h_Tree_change)
abbrev st_Tree_put_6 : Stmt := mthS 34 3
abbrev nm_Tree_put_6 : List PySem.Str := ["self", "thing", "is_there", "steps"]
theorem sc_Tree_put_6 : FnScope nm_Tree_put_6 ["self", "thing"] (defScope st_Tree_put_6) := ⟨rfl, rfl, rfl, by decide +kernel, rfl, by decide +kernel, by decide +kernel⟩
theorem ok_Tree_put_6 (T : WorC fa fn ts cs w K mg) : DefM P w K mg base 91 (He.ga K "Tree") "put" [.v] (fs_Tree_put_6 K) :=
  T.meth_ 39 54 60 (q := "Tree.put") (g := g_Tree_put_6 K) sc_Tree_put_6 (hbd := fun _ _ _ _ _ _ us hl => match us, hl with | [_, _], _ => rfl) (hmo := mo_Tree_put_6) 
    (hbody := fun f cdv A outer s H E hr hgd => dss_cons (ds_asg (p := false) (de_meth (n := 90) (tbl := [(He.ga K "Tree", fs_Tree_looked K)]) (tbl_cons ((ok_Tree_looked T).mono (n := 90)) tbl_nil) hr hgd (de_var 0) (dak_one (k := .v) (de_var 1))) (dt_tup rfl (dts_cons (dt_name 2 sc_Tree_put_6.nd) (dts_cons (dt_name 3 sc_Tree_put_6.nd) dts_nil))))
    (dss_cons (ds_if (p := true) (dt_tru (de_var 2)) (dss_one (ds_ret (p := true) (de_tupN (an_cons (de_int) (an_cons (de_var 3) an_nil))))) (dss_nil))
    (dss_cons (ds_expr (p := true) (dc_p ((ok_p_need_place_d T).mono (n := 90)) hr hgd (dak_one (k := .v) (dc_p ((ok_p_nodes T).mono (n := 90)) hr hgd (dak_one (k := .v) (de_fld (de_var 0)))))))
    (dss_one (ds_ret (p := false) (de_tupN (an_cons (de_int) (an_cons (de_add (de_var 3) (de_meth (n := 90) (tbl := [(He.ga K "Tree", fs_Tree_change K)]) (tbl_cons ((ok_Tree_change T).mono (n := 90)) tbl_nil) hr hgd (de_var 0) (dak_one (k := .v) (dc_p ((ok_p_with_thing T)) hr hgd (dak_cons (k := .v) (de_fld (de_var 0)) (dak_one (k := .v) (de_var 1))))))) an_nil))))))))
    (hfs := h_Tree_put_6)
abbrev st_Pails_pail_of : Stmt := mthS 37 1
abbrev nm_Pails_pail_of : List PySem.Str := ["self", "x"]
theorem sc_Pails_pail_of : FnScope nm_Pails_pail_of ["self", "x"] (defScope st_Pails_pail_of) := ⟨rfl, rfl, rfl, by decide +kernel, rfl, by decide +kernel, by decide +kernel⟩
theorem ok_Pails_pail_of (T : WorC fa fn ts cs w K mg) : DefM P w K mg base 3 (He.ga K "Pails") "pail_of" [.v] (fs_Pails_pail_of K) :=
  T.meth_ 40 63 67 (q := "Pails.pail_of") (g := g_Pails_pail_of K) sc_Pails_pail_of (hbd := fun _ _ _ _ _ _ us hl => match us, hl with | [_, _], _ => rfl) (hmo := mo_Pails_pail_of) 
    (hbody := fun f cdv A outer s H E hr hgd => dss_cons (ds_expr (p := true) (dc_p ((ok_p_need_member T)) hr hgd (dak_one (k := .v) (de_var 1))))
    (dss_one (ds_ret (p := true) (de_ix (hu_ hr) (de_drf (de_fld (de_var 0))) (de_op od_mod (de_var 1) (dg_int (T.int 44)))))))
    (hfs := h_Pails_pail_of)
abbrev st_Pails_all_things : Stmt := mthS 37 2
abbrev nm_Pails_all_things : List PySem.Str := ["self", "found", "pail"]
theorem sc_Pails_all_things : FnScope nm_Pails_all_things ["self"] (defScope st_Pails_all_things) := ⟨rfl, rfl, rfl, by decide +kernel, rfl, by decide +kernel, by decide +kernel⟩
theorem ok_Pails_all_things (T : WorC fa fn ts cs w K mg) : DefM P w K mg base 1 (He.ga K "Pails") "all_things" [] (fs_Pails_all_things K) :=
  T.meth_ 41 63 68 (q := "Pails.all_things") (g := g_Pails_all_things K) sc_Pails_all_things (hbd := fun _ _ _ _ _ _ us hl => match us, hl with | [_], _ => rfl) (hmo := mo_Pails_all_things) 
    (hbody := fun f cdv A outer s H E hr hgd => dss_cons (ds_own (p := true) 1 sc_Pails_all_things.nd (df_lst (an_nil)))
    (dss_cons (ds_forM (p := true) (passes_of rfl) rfl (de_fld (de_var 0)) (dt_name 2 sc_Pails_all_things.nd) (dss_one (ds_ext (p := true) 1 (de_drf (de_fld (de_var 2))))))
    (dss_frz 1 (dss_one (ds_ret (p := true) (de_var 1))))))
    (hfs := h_Pails_all_things)
abbrev st_Pails_put_6 : Stmt := mthS 37 3
abbrev nm_Pails_put_6 : List PySem.Str := ["self", "x", "pail"]
theorem sc_Pails_put_6 : FnScope nm_Pails_put_6 ["self", "x"] (defScope st_Pails_put_6) := ⟨rfl, rfl, rfl, by decide +kernel, rfl, by decide +kernel, by decide +kernel⟩
theorem ok_Pails_put_6 (T : WorC fa fn ts cs w K mg) : DefM P w K mg base 4 (He.ga K "Pails") "put" [.v] (fs_Pails_put_6 K) :=
  T.meth_ 42 63 69 (q := "Pails.put") (g := g_Pails_put_6 K) sc_Pails_put_6 (hbd := fun _ _ _ _ _ _ us hl => match us, hl with | [_, _], _ => rfl) (hmo := mo_Pails_put_6) 
    (hbody := fun f cdv A outer s H E hr hgd => dss_cons (ds_set (p := false) 2 sc_Pails_put_6.nd (de_meth (n := 3) (tbl := [(He.ga K "Pails", fs_Pails_pail_of K)]) (tbl_cons (ok_Pails_pail_of T) tbl_nil) hr hgd (de_var 0) (dak_one (k := .v) (de_var 1))))
    (dss_cons (ds_if (p := true) (dt_cmp (od_notin (hu_ hr)) (de_var 1) (de_drf (de_fld (de_var 2)))) (dss_one (ds_expr (p := false) (dc_p ((ok_p_need_place T).mono (n := 3)) hr hgd (dak_one (k := .b) ((de_meth0 (n := 3) (tbl := [(He.ga K "Pails", fs_Pails_all_things K)]) (tbl_cons ((ok_Pails_all_things T).mono (n := 3)) tbl_nil) hr hgd (de_var 0)).wk))))) (dss_nil))
    (dss_one (ds_ret (p := false) (de_meth (n := 3) (tbl := [(He.ga K "Heap", fs_Heap_put K)]) (tbl_cons (ok_Heap_put T) tbl_nil) hr hgd (de_var 2) (dak_one (k := .v) (de_var 1)))))))
    (hfs := h_Pails_put_6)
abbrev st_Heap_take : Stmt := mthS 23 3
abbrev nm_Heap_take : List PySem.Str := ["self", "x", "steps", "at"]
theorem sc_Heap_take : FnScope nm_Heap_take ["self", "x"] (defScope st_Heap_take) := ⟨rfl, rfl, rfl, by decide +kernel, rfl, by decide +kernel, by decide +kernel⟩
theorem ok_Heap_take (T : WorC fa fn ts cs w K mg) : DefM P w K mg base 3 (He.ga K "Heap") "take" [.v] (fs_Heap_take K) :=
  T.meth_ 43 46 52 (q := "Heap.take") (g := g_Heap_take K) sc_Heap_take (hbd := fun _ _ _ _ _ _ us hl => match us, hl with | [_, _], _ => rfl) (hmo := mo_Heap_take) 
    (hbody := fun f cdv A outer s H E hr hgd => dss_cons (ds_expr (p := true) (dc_p ((ok_p_need_member T)) hr hgd (dak_one (k := .v) (de_var 1))))
    (dss_cons (ds_set (p := false) 2 sc_Heap_take.nd (de_add (de_int) (de_meth (n := 2) (tbl := [(He.ga K "Heap", fs_Heap_looks K)]) (tbl_cons ((ok_Heap_looks T).mono (n := 2)) tbl_nil) hr hgd (de_var 0) (dak_one (k := .v) (de_var 1)))))
    (dss_cons (ds_if (p := true) (dt_cmp (od_notin (hu_ hr)) (de_var 1) (de_drf (de_fld (de_var 0)))) (dss_one (ds_ret (p := true) (de_tupN (an_cons (de_int) (an_cons (de_var 2) an_nil))))) (dss_nil))
    (dss_cons (ds_set (p := true) 3 sc_Heap_take.nd (de_mindex rfl (hu_ hr) (de_fld (de_var 0)) (de_var 1)))
    (dss_cons (ds_expr (p := false) (de_mpop (de_fld (de_var 0)) (de_var 3)))
    (dss_one (ds_ret (p := true) (de_tupN (an_cons (de_int) (an_cons (de_op od_sub (de_add (de_var 2) (de_callB ca_len (by rfl) (T.free 34) (by decide +kernel) (da_one (de_drf (de_fld (de_var 0)))))) (de_var 3)) an_nil))))))))))
    (hfs := h_Heap_take)
abbrev st_p_joined : Stmt := topS 28
abbrev nm_p_joined : List PySem.Str := ["first", "second"]
theorem sc_p_joined : FnScope nm_p_joined ["first", "second"] (defScope st_p_joined) := ⟨rfl, rfl, rfl, by decide +kernel, rfl, by decide +kernel, by decide +kernel⟩
theorem okr_p_joined (T : WorC fa fn ts cs w K mg) : ∀ k, Def P w K mg base (2 + k) "joined" ["first", "second"] [.v, .v] (fsr_p_joined K k) :=
  T.rec_ 21 (g := fun k => g_p_joined K k) sc_p_joined (hbd := fun _ _ _ _ _ _ us hl => match us, hl with | [_, _], _ => rfl) (hmo := mor_p_joined) (hno := no_p_joined)
    (hbody := fun k ih f cdv A outer s H E hr hgd => dss_cons (ds_if (p := true) ((dw_or (dt_cmp (od_eqE (hu_ hr)) (de_var 0) (de_tupN (an_nil))) (dw_or1 (dt_cmp (od_eqE (hu_ hr)) (de_var 1) (de_tupN (an_nil))))).dt) (dss_one (ds_ret (p := true) (de_add (de_var 0) (de_var 1)))) (dss_nil))
    (dss_cons (ds_if (p := true) (dt_tru (dc_p ((ok_p_is_upper T).mono (n := 2 + k) (by omega)) hr hgd (dak_cons (k := .v) (de_ix (hu_ hr) (de_var 0) (de_int)) (dak_one (k := .v) (de_ix (hu_ hr) (de_var 1) (de_int)))))) (dss_one (ds_ret (p := true) (de_tupN (an_cons (de_ix (hu_ hr) (de_var 0) (de_int)) (an_cons (de_ix (hu_ hr) (de_var 0) (de_int)) (an_cons (dc_p (ih) hr hgd (dak_cons (k := .v) (de_ix (hu_ hr) (de_var 0) (de_int)) (dak_one (k := .v) (de_var 1)))) an_nil)))))) (dss_nil))
    (dss_one (ds_ret (p := true) (de_tupN (an_cons (de_ix (hu_ hr) (de_var 1) (de_int)) (an_cons (dc_p (ih) hr hgd (dak_cons (k := .v) (de_var 0) (dak_one (k := .v) (de_ix (hu_ hr) (de_var 1) (de_int))))) (an_cons (de_ix (hu_ hr) (de_var 1) (de_int)) an_nil))))))))
    (hfs := h_p_joined)
theorem ok_p_joined (T : WorC fa fn ts cs w K mg) : Def P w K mg base 47 "joined" ["first", "second"] [.v, .v] (fs_p_joined K) := okr_p_joined T 45
abbrev st_p_without : Stmt := topS 30
abbrev nm_p_without : List PySem.Str := ["node", "thing"]
theorem sc_p_without : FnScope nm_p_without ["node", "thing"] (defScope st_p_without) := ⟨rfl, rfl, rfl, by decide +kernel, rfl, by decide +kernel, by decide +kernel⟩
theorem okr_p_without (T : WorC fa fn ts cs w K mg) : ∀ k, Def P w K mg base (47 + k) "without" ["node", "thing"] [.v, .v] (fsr_p_without K k) :=
  T.rec_ 22 (g := fun k => g_p_without K k) sc_p_without (hbd := fun _ _ _ _ _ _ us hl => match us, hl with | [_, _], _ => rfl) (hmo := mor_p_without) (hno := no_p_without)
    (hbody := fun k ih f cdv A outer s H E hr hgd => dss_cons (ds_if (p := true) (dt_cmp (od_eqA (hu_ hr)) (de_ix (hu_ hr) (de_var 0) (de_int)) (de_var 1)) (dss_one (ds_ret (p := true) (dc_p ((ok_p_joined T).mono (n := 47 + k) (by omega)) hr hgd (dak_cons (k := .v) (de_ix (hu_ hr) (de_var 0) (de_int)) (dak_one (k := .v) (de_ix (hu_ hr) (de_var 0) (de_int))))))) (dss_nil))
    (dss_cons (ds_if (p := true) (dt_cmp (od_ltA (hu_ (n := 0) hr)) (de_var 1) (de_ix (hu_ hr) (de_var 0) (de_int))) (dss_one (ds_ret (p := true) (de_tupN (an_cons (de_ix (hu_ hr) (de_var 0) (de_int)) (an_cons (dc_p (ih) hr hgd (dak_cons (k := .v) (de_ix (hu_ hr) (de_var 0) (de_int)) (dak_one (k := .v) (de_var 1)))) (an_cons (de_ix (hu_ hr) (de_var 0) (de_int)) an_nil)))))) (dss_nil))
    (dss_one (ds_ret (p := true) (de_tupN (an_cons (de_ix (hu_ hr) (de_var 0) (de_int)) (an_cons (de_ix (hu_ hr) (de_var 0) (de_int)) (an_cons (dc_p (ih) hr hgd (dak_cons (k := .v) (de_ix (hu_ hr) (de_var 0) (de_int)) (dak_one (k := .v) (de_var 1)))) an_nil))))))))
    (hfs := h_p_without)
theorem ok_p_without (T : WorC fa fn ts cs w K mg) : Def P w K mg base 92 "without" ["node", "thing"] [.v, .v] (fs_p_without K) := okr_p_without T 45
abbrev st_Tree_take : Stmt := mthS 34 4
abbrev nm_Tree_take : List PySem.Str := ["self", "thing", "is_there", "steps"]
theorem sc_Tree_take : FnScope nm_Tree_take ["self", "thing"] (defScope st_Tree_take) := ⟨rfl, rfl, rfl, by decide +kernel, rfl, by decide +kernel, by decide +kernel⟩
theorem ok_Tree_take (T : WorC fa fn ts cs w K mg) : DefM P w K mg base 93 (He.ga K "Tree") "take" [.v] (fs_Tree_take K) :=
  T.meth_ 44 54 61 (q := "Tree.take") (g := g_Tree_take K) sc_Tree_take (hbd := fun _ _ _ _ _ _ us hl => match us, hl with | [_, _], _ => rfl) (hmo := mo_Tree_take) 
    (hbody := fun f cdv A outer s H E hr hgd => dss_cons (ds_asg (p := false) (de_meth (n := 92) (tbl := [(He.ga K "Tree", fs_Tree_looked K)]) (tbl_cons ((ok_Tree_looked T).mono (n := 92)) tbl_nil) hr hgd (de_var 0) (dak_one (k := .v) (de_var 1))) (dt_tup rfl (dts_cons (dt_name 2 sc_Tree_take.nd) (dts_cons (dt_name 3 sc_Tree_take.nd) dts_nil))))
    (dss_cons (ds_if (p := true) (dt_not (dt_tru (de_var 2))) (dss_one (ds_ret (p := true) (de_tupN (an_cons (de_int) (an_cons (de_var 3) an_nil))))) (dss_nil))
    (dss_one (ds_ret (p := false) (de_tupN (an_cons (de_int) (an_cons (de_add (de_var 3) (de_meth (n := 92) (tbl := [(He.ga K "Tree", fs_Tree_change K)]) (tbl_cons ((ok_Tree_change T).mono (n := 92)) tbl_nil) hr hgd (de_var 0) (dak_one (k := .v) (dc_p ((ok_p_without T)) hr hgd (dak_cons (k := .v) (de_fld (de_var 0)) (dak_one (k := .v) (de_var 1))))))) an_nil)))))))
    (hfs := h_Tree_take)
abbrev st_Pails_take_11 : Stmt := mthS 37 4
abbrev nm_Pails_take_11 : List PySem.Str := ["self", "x"]
theorem sc_Pails_take_11 : FnScope nm_Pails_take_11 ["self", "x"] (defScope st_Pails_take_11) := ⟨rfl, rfl, rfl, by decide +kernel, rfl, by decide +kernel, by decide +kernel⟩
theorem ok_Pails_take_11 (T : WorC fa fn ts cs w K mg) : DefM P w K mg base 4 (He.ga K "Pails") "take" [.v] (fs_Pails_take_11 K) :=
  T.meth_ 45 63 70 (q := "Pails.take") (g := g_Pails_take_11 K) sc_Pails_take_11 (hbd := fun _ _ _ _ _ _ us hl => match us, hl with | [_, _], _ => rfl) (hmo := mo_Pails_take_11) 
    (hbody := fun f cdv A outer s H E hr hgd => dss_one (ds_ret (p := false) (de_meth (n := 3) (tbl := [(He.ga K "Heap", fs_Heap_take K)]) (tbl_cons (ok_Heap_take T) tbl_nil) hr hgd (de_meth (n := 3) (tbl := [(He.ga K "Pails", fs_Pails_pail_of K)]) (tbl_cons (ok_Pails_pail_of T) tbl_nil) hr hgd (de_var 0) (dak_one (k := .v) (de_var 1))) (dak_one (k := .v) (de_var 1)))))
    (hfs := h_Pails_take_11)
abbrev st_l_by_ways_4 : Stmt := topS 49
abbrev nm_l_by_ways_4 : List PySem.Str := ["_law_state", "_law_kept", "_law_box", "_law_pails", "_law_last", "_law_x", "_law_other", "_law_again", "_law_one"]
theorem sc_l_by_ways_4 : FnScope nm_l_by_ways_4 ["_law_state", "_law_kept"] (defScope st_l_by_ways_4) := ⟨rfl, rfl, rfl, by decide +kernel, rfl, by decide +kernel, by decide +kernel⟩
theorem ok_l_by_ways_4 (T : WorC fa fn ts cs w K mg) : Def P w K mg base 94 "_law_by_ways" ["_law_state", "_law_kept"] [.v, .v] (fs_l_by_ways_4 K) :=
  T.def_ 23 (g := g_l_by_ways_4 K) sc_l_by_ways_4 (hbd := fun _ _ _ _ _ _ us hl => match us, hl with | [_, _], _ => rfl) (hmo := mo_l_by_ways_4)
    (hbody := fun f cdv A outer s H E hr hgd => dss_cons (ds_par (p := false) 2 3 rfl sc_l_by_ways_4.nd (da_cons (de_make (n := 92) ((ok_Tree___init__ T).mono (n := 92)) hr hgd (dak_one (k := .v) (de_tupN (an_nil)))) (da_one (de_make (n := 92) ((ok_Pails___init__ T).mono (n := 92)) hr hgd (dak_one (k := .v) (de_tupN (an_nil)))))))
    (dss_cons (ds_own (p := true) 4 sc_l_by_ways_4.nd (df_lst (an_nil)))
    (dss_cons (ds_for (p := true) (passes_of rfl) rfl (di_seq (de_var 1)) (dt_name 5 sc_l_by_ways_4.nd) (dss_cons (ds_if (p := false) ((dw_and (dt_cmp (od_ltA (hu_ (n := 0) hr)) (de_callB ca_len (by rfl) (T.free 34) (by decide +kernel) (da_one (de_varW 4))) (de_int)) (dw_and1 (dt_cmp (od_eqA (hu_ hr)) (dc_m ((ok_l_take T).mono (n := 93)) hr hgd (dak_cons (k := .v) (de_var 0) (dak_one (k := .v) (de_int)))) (de_int)))).dt) (dss_cons (ds_set (p := false) 6 sc_l_by_ways_4.nd (dc_m ((ok_l_thing T).mono (n := 93)) hr hgd (dak_cons (k := .v) (de_var 0) (dak_one (k := .v) (dc_m ((ok_l_take T).mono (n := 93)) hr hgd (dak_cons (k := .v) (de_var 0) (dak_one (k := .v) (de_int))))))))
    (dss_one (ds_if (p := true) ((dw_and (dt_cmp (od_notin (hu_ hr)) (de_var 6) (de_var 1)) (dw_and1 (dt_cmp (od_notin (hu_ hr)) (de_var 6) (de_varW 4)))).dt) (dss_cons (ds_expr (p := false) (de_meth (n := 93) (tbl := [(He.ga K "Heap", fs_Heap_put K), (He.ga K "Tree", fs_Tree_put_6 K), (He.ga K "Pails", fs_Pails_put_6 K)]) (tbl_cons ((ok_Heap_put T).mono (n := 93)) (tbl_cons ((ok_Tree_put_6 T).mono (n := 93)) (tbl_cons ((ok_Pails_put_6 T).mono (n := 93)) tbl_nil))) hr hgd (de_var 2) (dak_one (k := .v) (de_var 6))))
    (dss_cons (ds_expr (p := false) (de_meth (n := 93) (tbl := [(He.ga K "Heap", fs_Heap_put K), (He.ga K "Tree", fs_Tree_put_6 K), (He.ga K "Pails", fs_Pails_put_6 K)]) (tbl_cons ((ok_Heap_put T).mono (n := 93)) (tbl_cons ((ok_Tree_put_6 T).mono (n := 93)) (tbl_cons ((ok_Pails_put_6 T).mono (n := 93)) tbl_nil))) hr hgd (de_var 3) (dak_one (k := .v) (de_var 6))))
    (dss_cons (ds_expr (p := false) (de_meth (n := 93) (tbl := [(He.ga K "Heap", fs_Heap_take K), (He.ga K "Tree", fs_Tree_take K), (He.ga K "Pails", fs_Pails_take_11 K)]) (tbl_cons ((ok_Heap_take T).mono (n := 93)) (tbl_cons (ok_Tree_take T) (tbl_cons ((ok_Pails_take_11 T).mono (n := 93)) tbl_nil))) hr hgd (de_var 2) (dak_one (k := .v) (de_var 6))))
    (dss_one (ds_expr (p := false) (de_meth (n := 93) (tbl := [(He.ga K "Heap", fs_Heap_take K), (He.ga K "Tree", fs_Tree_take K), (He.ga K "Pails", fs_Pails_take_11 K)]) (tbl_cons ((ok_Heap_take T).mono (n := 93)) (tbl_cons (ok_Tree_take T) (tbl_cons ((ok_Pails_take_11 T).mono (n := 93)) tbl_nil))) hr hgd (de_var 3) (dak_one (k := .v) (de_var 6)))))))) (dss_nil)))) (dss_nil))
    (dss_cons (ds_expr (p := false) (de_meth (n := 93) (tbl := [(He.ga K "Heap", fs_Heap_put K), (He.ga K "Tree", fs_Tree_put_6 K), (He.ga K "Pails", fs_Pails_put_6 K)]) (tbl_cons ((ok_Heap_put T).mono (n := 93)) (tbl_cons ((ok_Tree_put_6 T).mono (n := 93)) (tbl_cons ((ok_Pails_put_6 T).mono (n := 93)) tbl_nil))) hr hgd (de_var 2) (dak_one (k := .v) (de_var 5))))
    (dss_cons (ds_expr (p := false) (de_meth (n := 93) (tbl := [(He.ga K "Heap", fs_Heap_put K), (He.ga K "Tree", fs_Tree_put_6 K), (He.ga K "Pails", fs_Pails_put_6 K)]) (tbl_cons ((ok_Heap_put T).mono (n := 93)) (tbl_cons ((ok_Tree_put_6 T).mono (n := 93)) (tbl_cons ((ok_Pails_put_6 T).mono (n := 93)) tbl_nil))) hr hgd (de_var 3) (dak_one (k := .v) (de_var 5))))
    (dss_cons (ds_app (p := true) 4 (de_var 5))
    (dss_one (ds_if (p := false) (dt_cmp (od_eqA (hu_ hr)) (dc_m ((ok_l_take T).mono (n := 93)) hr hgd (dak_cons (k := .v) (de_var 0) (dak_one (k := .v) (de_int)))) (de_int)) (dss_frz 4 (dss_cons (ds_set (p := false) 7 sc_l_by_ways_4.nd (dc_m ((ok_l_pick T).mono (n := 93)) hr hgd (dak_cons (k := .v) (de_var 0) (dak_one (k := .v) (de_var 4)))))
    (dss_cons (ds_for (p := true) (passes_of rfl) rfl (di_seq (de_lstN (an_cons (de_var 2) (an_cons (de_var 3) an_nil)))) (dt_name 8 sc_l_by_ways_4.nd) (dss_cons (ds_expr (p := false) (de_meth (n := 93) (tbl := [(He.ga K "Heap", fs_Heap_take K), (He.ga K "Tree", fs_Tree_take K), (He.ga K "Pails", fs_Pails_take_11 K)]) (tbl_cons ((ok_Heap_take T).mono (n := 93)) (tbl_cons (ok_Tree_take T) (tbl_cons ((ok_Pails_take_11 T).mono (n := 93)) tbl_nil))) hr hgd (de_var 8) (dak_one (k := .v) (de_var 7))))
    (dss_one (ds_expr (p := false) (de_meth (n := 93) (tbl := [(He.ga K "Heap", fs_Heap_put K), (He.ga K "Tree", fs_Tree_put_6 K), (He.ga K "Pails", fs_Pails_put_6 K)]) (tbl_cons ((ok_Heap_put T).mono (n := 93)) (tbl_cons ((ok_Tree_put_6 T).mono (n := 93)) (tbl_cons ((ok_Pails_put_6 T).mono (n := 93)) tbl_nil))) hr hgd (de_var 8) (dak_one (k := .v) (de_var 7)))))))
    (dss_one (ds_own (p := true) 4 sc_l_by_ways_4.nd (df_cat ((df_comp (own := [("_law_one", 8)]) rfl sc_l_by_ways_4.nd (di_seq (de_var 4)) (blkOk_by (N := nm_l_by_ways_4) (sc := defScope st_l_by_ways_4) (by decide +kernel)) (fun _ _ _ _ _ => dt_name 8 sc_l_by_ways_4.nd) (fun _ _ _ _ _ => dtts_one (dt_cmp (od_neA (hu_ hr)) (de_var 8) (de_var 7))) (fun _ _ _ _ _ => de_var 8)).de) (de_lstN (an_cons (de_var 7) an_nil)))))))) (dss_nil))))))))
    (dss_frz 4 (dss_one (ds_ret (p := true) (de_lstN (an_cons (de_var 2) (an_cons (de_var 3) (an_cons (de_var 4) an_nil))))))))))
    (hfs := h_l_by_ways_4)
abbrev st_l_turn : Stmt := topS 47
abbrev nm_l_turn : List PySem.Str := ["_law_one"]
theorem sc_l_turn : FnScope nm_l_turn ["_law_one"] (defScope st_l_turn) := ⟨rfl, rfl, rfl, by decide +kernel, rfl, by decide +kernel, by decide +kernel⟩
theorem ok_l_turn (T : WorC fa fn ts cs w K mg) : Def P w K mg base 1 "_law_turn" ["_law_one"] [.v] (fs_l_turn K) :=
  T.def_ 24 (g := g_l_turn K) sc_l_turn (hbd := fun _ _ _ _ _ _ us hl => match us, hl with | [_], _ => rfl) (hmo := mo_l_turn)
    (hbody := fun f cdv A outer s H E hr hgd => dss_one (ds_ret (p := true) (de_tupN (an_cons (de_op od_sub (de_int) (de_op od_mod (de_add (de_op od_mulI (de_var 0) (de_int)) (de_int)) (de_int))) (an_cons (de_var 0) an_nil)))))
    (hfs := h_l_turn)
abbrev st_l_walked_2 : Stmt := topS 48
abbrev nm_l_walked_2 : List PySem.Str := ["_law_form", "_law_first", "_law_second", "_law_one"]
theorem sc_l_walked_2 : FnScope nm_l_walked_2 ["_law_form"] (defScope st_l_walked_2) := ⟨rfl, rfl, rfl, by decide +kernel, rfl, by decide +kernel, by decide +kernel⟩
theorem okr_l_walked_2 (T : WorC fa fn ts cs w K mg) : ∀ k, Def P w K mg base (1 + k) "_law_walked" ["_law_form"] [.v] (fsr_l_walked_2 K k) :=
  T.rec_ 25 (g := fun k => g_l_walked_2 K k) sc_l_walked_2 (hbd := fun _ _ _ _ _ _ us hl => match us, hl with | [_], _ => rfl) (hmo := mor_l_walked_2) (hno := no_l_walked_2)
    (hbody := fun k ih f cdv A outer s H E hr hgd => dss_cons (ds_if (p := true) (dt_cmp (od_eqE (hu_ hr)) (de_var 0) (de_tupN (an_nil))) (dss_one (ds_ret (p := true) (de_lstN (an_nil)))) (dss_nil))
    (dss_cons (ds_if (p := true) ((dw_or (dt_not (dt_tru (de_callB ca_isi (by rfl) (T.free 33) (by decide +kernel) (da_cons (de_var 0) (da_one (de_ty (by rfl) (T.free 41) (by decide +kernel))))))) (dw_or (dt_cmp (od_neA (hu_ hr)) (de_callB ca_len (by rfl) (T.free 34) (by decide +kernel) (da_one (de_var 0))) (de_int)) (dw_or (dt_tru (de_callB ca_isi (by rfl) (T.free 33) (by decide +kernel) (da_cons (de_ix (hu_ hr) (de_var 0) (de_int)) (da_one (de_ty (by rfl) (T.free 31) (by decide +kernel)))))) (dw_or1 (dt_not (dt_tru (de_callB ca_isi (by rfl) (T.free 33) (by decide +kernel) (da_cons (de_ix (hu_ hr) (de_var 0) (de_int)) (da_one (de_ty (by rfl) (T.free 32) (by decide +kernel))))))))))).dt) (dss_one (ds_ret (p := true) (de_non))) (dss_nil))
    (dss_cons (ds_par (p := true) 1 2 rfl sc_l_walked_2.nd (da_cons (dc_p (ih) hr hgd (dak_one (k := .v) (de_ix (hu_ hr) (de_var 0) (de_int)))) (da_one (dc_p (ih) hr hgd (dak_one (k := .v) (de_ix (hu_ hr) (de_var 0) (de_int)))))))
    (dss_cons (ds_if (p := true) ((dw_or (dt_cmp od_isN (de_var 1) (de_non)) (dw_or1 (dt_cmp od_isN (de_var 2) (de_non)))).dt) (dss_one (ds_ret (p := true) (de_non))) (dss_nil))
    (dss_cons (ds_for (p := true) (passes_of rfl) rfl (di_seq (de_add (de_var 1) (de_var 2))) (dt_name 3 sc_l_walked_2.nd) (dss_one (ds_if (p := true) (dt_cmp (od_ltA (hu_ (n := 0) hr)) (dc_p ((ok_l_turn T).mono (n := 1 + k) (by omega)) hr hgd (dak_one (k := .v) (de_var 3))) (dc_p ((ok_l_turn T).mono (n := 1 + k) (by omega)) hr hgd (dak_one (k := .v) (de_ix (hu_ hr) (de_var 0) (de_int))))) (dss_one (ds_ret (p := true) (de_non))) (dss_nil))))
    (dss_one (ds_ret (p := true) (de_add (de_add (de_var 1) (de_lstN (an_cons (de_ix (hu_ hr) (de_var 0) (de_int)) an_nil))) (de_var 2)))))))))
    (hfs := h_l_walked_2)
theorem ok_l_walked_2 (T : WorC fa fn ts cs w K mg) : Def P w K mg base 46 "_law_walked" ["_law_form"] [.v] (fs_l_walked_2 K) := okr_l_walked_2 T 45
abbrev st_l_pail_form : Stmt := topS 45
abbrev nm_l_pail_form : List PySem.Str := ["_law_kept", "_law_at", "_law_one"]
theorem sc_l_pail_form : FnScope nm_l_pail_form ["_law_kept"] (defScope st_l_pail_form) := ⟨rfl, rfl, rfl, by decide +kernel, rfl, by decide +kernel, by decide +kernel⟩
theorem ok_l_pail_form (T : WorC fa fn ts cs w K mg) : Def P w K mg base 1 "_law_pail_form" ["_law_kept"] [.v] (fs_l_pail_form K) :=
  T.def_ 26 (g := g_l_pail_form K) sc_l_pail_form (hbd := fun _ _ _ _ _ _ us hl => match us, hl with | [_], _ => rfl) (hmo := mo_l_pail_form)
    (hbody := fun f cdv A outer s H E hr hgd => dss_one (ds_ret (p := true) (de_tupleS (by rfl) (T.free 41) (da_one ((df_comp (own := [("_law_at", 1)]) rfl sc_l_pail_form.nd (di_range1 (by rfl) (T.free 36) (da_one (de_int))) (blkOk_by (N := nm_l_pail_form) (sc := defScope st_l_pail_form) (by decide +kernel)) (fun _ _ _ _ _ => dt_name 1 sc_l_pail_form.nd) (fun _ _ _ _ _ => dtts_nil) (fun _ _ _ _ _ => de_tupleS (by rfl) (T.free 41) (da_one ((df_comp (own := [("_law_one", 2)]) rfl sc_l_pail_form.nd (di_seq (de_var 0)) (blkOk_by (by first | kernel_rfl | rfl)) (fun _ _ _ _ _ => dt_name 2 sc_l_pail_form.nd) (fun _ _ _ _ _ => dtts_one (dt_cmp (od_eqA (hu_ hr)) (de_op od_mod (de_var 2) (de_int)) (de_var 1))) (fun _ _ _ _ _ => de_var 2)).de)))).de)))))
    (hfs := h_l_pail_form)
abbrev st_l_order : Stmt := topS 46
abbrev nm_l_order : List PySem.Str := ["_law_state", "_law_kept", "_law_left", "_law_found"]
theorem sc_l_order : FnScope nm_l_order ["_law_state", "_law_kept"] (defScope st_l_order) := ⟨rfl, rfl, rfl, by decide +kernel, rfl, by decide +kernel, by decide +kernel⟩
theorem ok_l_order (T : WorC fa fn ts cs w K mg) : Def P w K mg base 2 "_law_order" ["_law_state", "_law_kept"] [.v, .v] (fs_l_order K) :=
  T.def_ 27 (g := g_l_order K) sc_l_order (hbd := fun _ _ _ _ _ _ us hl => match us, hl with | [_, _], _ => rfl) (hmo := mo_l_order)
    (hbody := fun f cdv A outer s H E hr hgd => dss_cons (ds_setM (p := true) 2 sc_l_order.nd (df_list rfl (de_var 1) (by rfl) (T.free 35)))
    (dss_cons (ds_own (p := true) 3 sc_l_order.nd (df_lst (an_nil)))
    (dss_cons (ds_while (p := true) (passes_of rfl) (dt_cmp (od_neE (hu_ hr)) (de_drf (de_var 2)) (de_lstN (an_nil))) (dss_one (ds_app (p := false) 3 (de_mpop (de_var 2) (dc_m ((ok_l_take T)) hr hgd (dak_cons (k := .v) (de_var 0) (dak_one (k := .v) (de_callB ca_len (by rfl) (T.free 34) (by decide +kernel) (da_one (de_drf (de_var 2)))))))))))
    (dss_frz 3 (dss_one (ds_ret (p := true) (de_var 3)))))))
    (hfs := h_l_order)
abbrev st_law_k23 : Stmt := topS 50
abbrev nm_law_k23 : List PySem.Str := ["_law_script", "_law_state", "_law_kept", "_law_form", "_law_others", "_law_box", "_law_pails", "_law_last", "_law_one"]
theorem sc_law_k23 : FnScope nm_law_k23 ["_law_script"] (defScope st_law_k23) := ⟨rfl, rfl, rfl, by decide +kernel, rfl, by decide +kernel, by decide +kernel⟩
theorem ok_law (T : WorC fa fn ts cs w K mg) : ∃ f fd, mg "law" = some (.ref f) ∧ (∀ (s : Shared) (u : Value), BindsTo s fd ⟨[u], []⟩ [("_law_script", u)]) ∧ ∀ base : Heap, FnG P w K mg base 95 f fd ["_law_script"] (toSp K [.s] (fs_law_k23 K)) :=
  T.law_ 28 (g := g_law_k23 K) sc_law_k23 (hbd := fun _ _ _ _ _ _ us hl => match us, hl with | [_], _ => rfl)
    (hbody := fun base f cdv A outer s H E hr hgd => dss_cons (ds_set (p := false) 1 sc_law_k23.nd (dc_m ((ok_l_begun T).mono (n := 94)) hr hgd (dak_scr 0)))
    (dss_cons (ds_set (p := false) 2 sc_law_k23.nd (dc_m ((ok_l_set_4 T).mono (n := 94)) hr hgd (dak_cons (k := .v) (de_var 1) (dak_one (k := .v) (de_int)))))
    (dss_cons (ds_set (p := false) 3 sc_law_k23.nd (de_meth0 (n := 94) (tbl := [(He.ga K "Heap", fs_Heap_form K), (He.ga K "Tree", fs_Tree_form K), (He.ga K "Pails", fs_Pails_form_6 K)]) (tbl_cons ((ok_Heap_form T).mono (n := 94)) (tbl_cons ((ok_Tree_form T).mono (n := 94)) (tbl_cons ((ok_Pails_form_6 T).mono (n := 94)) tbl_nil))) hr hgd (de_make (n := 93) ((ok_Tree___init__ T).mono (n := 93)) hr hgd (dak_one (k := .v) (de_tupleS (by rfl) (T.free 41) (da_one (de_var 2)))))))
    (dss_cons (ds_if (p := true) (dt_cmp (od_neA (hu_ hr)) (dc_p ((ok_l_walked_2 T).mono (n := 94)) hr hgd (dak_one (k := .v) (de_var 3))) ((df_sorted (de_var 2) (by rfl) (T.free 39)).de)) (dss_one (ds_ret (p := true) (de_bl))) (dss_nil))
    (dss_cons (ds_set (p := false) 4 sc_law_k23.nd (de_lstN (an_cons (de_meth0 (n := 94) (tbl := [(He.ga K "Heap", fs_Heap_form K), (He.ga K "Tree", fs_Tree_form K), (He.ga K "Pails", fs_Pails_form_6 K)]) (tbl_cons ((ok_Heap_form T).mono (n := 94)) (tbl_cons ((ok_Tree_form T).mono (n := 94)) (tbl_cons ((ok_Pails_form_6 T).mono (n := 94)) tbl_nil))) hr hgd (de_make (n := 93) ((ok_Tree___init__ T).mono (n := 93)) hr hgd (dak_one (k := .v) (de_tupleS (by rfl) (T.free 41) (da_one (dc_m ((ok_l_order T).mono (n := 94)) hr hgd (dak_cons (k := .v) (de_var 1) (dak_one (k := .v) (de_var 2))))))))) (an_cons (de_meth0 (n := 94) (tbl := [(He.ga K "Heap", fs_Heap_form K), (He.ga K "Tree", fs_Tree_form K), (He.ga K "Pails", fs_Pails_form_6 K)]) (tbl_cons ((ok_Heap_form T).mono (n := 94)) (tbl_cons ((ok_Tree_form T).mono (n := 94)) (tbl_cons ((ok_Pails_form_6 T).mono (n := 94)) tbl_nil))) hr hgd (de_make (n := 93) ((ok_Tree___init__ T).mono (n := 93)) hr hgd (dak_one (k := .v) (de_tupleS (by rfl) (T.free 41) (da_one ((df_sorted (de_var 2) (by rfl) (T.free 39)).de)))))) an_nil))))
    (dss_cons (ds_asg (p := false) (dc_m ((ok_l_by_ways_4 T)) hr hgd (dak_cons (k := .v) (de_var 1) (dak_one (k := .v) (de_var 2)))) (dt_lst rfl (dts_cons (dt_name 5 sc_law_k23.nd) (dts_cons (dt_name 6 sc_law_k23.nd) (dts_cons (dt_name 7 sc_law_k23.nd) dts_nil)))))
    (dss_cons (ds_if (p := false) (dt_cmp (od_neA (hu_ hr)) ((df_comp (own := [("_law_one", 8)]) rfl sc_law_k23.nd (di_seq (de_add (de_var 4) (de_lstN (an_cons (de_meth0 (n := 94) (tbl := [(He.ga K "Heap", fs_Heap_form K), (He.ga K "Tree", fs_Tree_form K), (He.ga K "Pails", fs_Pails_form_6 K)]) (tbl_cons ((ok_Heap_form T).mono (n := 94)) (tbl_cons ((ok_Tree_form T).mono (n := 94)) (tbl_cons ((ok_Pails_form_6 T).mono (n := 94)) tbl_nil))) hr hgd (de_var 5)) an_nil)))) (blkOk_by (N := nm_law_k23) (sc := defScope st_law_k23) (by decide +kernel)) (fun _ _ _ _ _ => dt_name 8 sc_law_k23.nd) (fun _ _ _ _ _ => dtts_nil) (fun _ _ _ _ _ => de_callB (ca_repr (hu_ hr) hgd) (by rfl) (T.free 37) (by decide +kernel) (da_one (de_var 8)))).de) (de_mulL (de_lstN (an_cons (de_callB (ca_repr (hu_ hr) hgd) (by rfl) (T.free 37) (by decide +kernel) (da_one (de_var 3))) an_nil)) (de_int))) (dss_one (ds_ret (p := true) (de_bl))) (dss_nil))
    (dss_one (ds_ret (p := false) (de_chain (od_eqA (hu_ hr)) (od_eqA (hu_ hr)) (de_callB (ca_repr (hu_ hr) hgd) (by rfl) (T.free 37) (by decide +kernel) (da_one (de_meth0 (n := 94) (tbl := [(He.ga K "Heap", fs_Heap_form K), (He.ga K "Tree", fs_Tree_form K), (He.ga K "Pails", fs_Pails_form_6 K)]) (tbl_cons ((ok_Heap_form T).mono (n := 94)) (tbl_cons ((ok_Tree_form T).mono (n := 94)) (tbl_cons ((ok_Pails_form_6 T).mono (n := 94)) tbl_nil))) hr hgd (de_var 6)))) (de_callB (ca_repr (hu_ hr) hgd) (by rfl) (T.free 37) (by decide +kernel) (da_one (dc_p ((ok_l_pail_form T).mono (n := 94)) hr hgd (dak_one (k := .v) (de_var 7))))) (de_callB (ca_repr (hu_ hr) hgd) (by rfl) (T.free 37) (by decide +kernel) (da_one (de_meth0 (n := 94) (tbl := [(He.ga K "Heap", fs_Heap_form K), (He.ga K "Tree", fs_Tree_form K), (He.ga K "Pails", fs_Pails_form_6 K)]) (tbl_cons ((ok_Heap_form T).mono (n := 94)) (tbl_cons ((ok_Tree_form T).mono (n := 94)) (tbl_cons ((ok_Pails_form_6 T).mono (n := 94)) tbl_nil))) hr hgd (de_make (n := 93) ((ok_Pails___init__ T).mono (n := 93)) hr hgd (dak_one (k := .v) (de_tupleS (by rfl) (T.free 41) (da_one (de_var 7))))))))))))))))))
    (hfs := h_law_k23)
end
end LW
namespace LW
open PySem PySem.Spec PySem.W PyProof.Rows L2 DL
abbrev hk : PySem.W.Hook := He.hookX 5 fa fn ts [] (fun K => cs.all (Ck.ok K))
end LW
open PySem PySem.W PySem.Calls PyProof.Rows
set_option maxHeartbeats 0 in
theorem PySem.Challenge.cw_turnshelf_k23_whole_one_tree_a_set_holds : PySem.Challenge.rw_turnshelf_k23_whole_one_tree_a_set.Holds := by
  w_on; o_law
  o_head LW.hk
  case hw => w_witness2
  refine DL.walk_ofG (l := PySem.Challenge.rw_turnshelf_k23_whole_one_tree_a_set) (n := 63) (k := 95) (x := "_law_script") rfl (by decide) ?_ ⟨rfl, by decide, by decide⟩ ?F
  case F =>
    intro w mg fa h Y G hmg0
    obtain ⟨K, kin, c⟩ := Y
    have hmg : mg ("law" : PySem.Str) = some (.ref fa) := by
      exact hmg0
    obtain ⟨f, fd, e, hb, hF⟩ := LW.ok_law (P := (PySem.Challenge.rw_turnshelf_k23_whole_one_tree_a_set).prog) (w := w) (DL.WorC.mk (DL.WorT.mk (DL.Wor.mk ⟨h, kin, G⟩ c.t.d) c.t) c.more)
    rw [e] at hmg
    cases hmg
    exact ⟨K, fd, DL.toSp K [.s] (LW.fs_law_k23 K), kin, hb, fun H a zs hl hO hS => DL.only_scr (ks := []) hO hS ⟨zs, rfl, hl, fun _ => rfl⟩ LW.mo_law_k23, fun base _ _ => hF base⟩
  rfl
