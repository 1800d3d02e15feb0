import PyProof.Rows.All
import Wide.All
import OpenK.AllK
import Wide.FinOn
import KE.KStateDown
import Lean
import HandS.Head0
import HandS.Head1
import HandS.Head2
import HandS.HeadEnd
import HandS.HeadHook1
import HandS.HeadHook2
import HandS.HeadHook3
import HandS.HeadHook4
import HandS.ForMost
import HandS.Deep
import HandS.ForExc
import HandS.Iter
import HandS.Zip
import HandS.Rev
import HandS.Conv
import HandS.TupAny
import HandS.TupMul
import KE.KIndexOf
import HandS.Lambda
import HandS.Dict
import HandS.More
import HandS.Wide
import HandS.IsInst
import HandS.Style
import HandS.Defaults
import HandS.HeadNt
import KE.GoesMore
import PyProof.SeqIndex
import PyProof.ReprRoads
import KE.DataMinMax
import KE.KRevSl
import PyProof.ReprLen
import HandS.SortKw
import HandS.SetFor
import HandS.SortInts
import HandS.SortOrd
import PyProof.Rows.SortShell
import PyProof.SumWalkG
import KE.KIsAll
import HandS.Exc
import HandS.ExcIs
import HandS.ExcValue
import KE.KSliceW
import HandS.Walk
import KE.KDictPairs
import HandS.ClsMeth
import PyProof.TupleOfSeq
import PyProof.TupleOfGen
import PyProof.ListNew
import KE.KItemsList
import KE.KDictList
import HandS.ListItems
import PyProof.NeKinds
import PyProof.EqAt
import PyProof.CallStr
import PyProof.EqKinds
import PyProof.Rows.IntBool
import PyProof.StrOps2
import KE.KIntText
import PySem.Challenge.RW_turnshelf_k35_rows_spoilt_anywhere
set_option Elab.async false
set_option linter.all false
set_option maxRecDepth 100000
set_option Elab.async false
set_option linter.all false
set_option maxRecDepth 100000
namespace DL
open PySem PySem.Spec PyProof.Rows L2
section
variable {X : Cx} {pins : List (Addr × Obj)} {σ : L2.St} {H : Hp} {s : Shared} {Q : VK} {vs : List V} {us : List Value} {es : List Expr} {t : TA} {pos : Pos}
def Fz (Q : VK) (H : Hp) (vs : List V) : Prop := ∀ p o, o.dict = none → H p = none → Q (.ref p) (upd H p (.frz o (.tup vs)))
theorem laid_fz {k : Nat} (I : Inv X pins σ H s) (r : Vals vs us) (hz : vs.length ≤ sizeLine) (h : Fz Q H vs) :
    EP X pins σ Q (.ref s.heap.objs.size) { s with toks := k, heap := s.heap.push { cls := .type "tuple", data := .seq us.toArray } } :=
  ⟨.ref s.heap.objs.size, _, I.laid (fun b u q => Heap.get?_push_of_some _ q) (Nat.le_refl _) (o := .frz _ (.tup vs)) ⟨Heap.get?_push_size _ rfl, hz, us, r, IsTup.new _ _⟩, rfl, h _ _ rfl (I.hok.fresh (Nat.le_refl _))⟩
def tTupF (t : TA) : TE := fun σ H Q => t σ H fun xs H1 => xs.length ≤ sizeLine ∧ Fz Q H1 xs
theorem pe_tupF {x1} (h : PA X es t) : PE X (.Tuple es x1 pos) (tTupF t) :=
  ⟨fun pins s σ H Q I hq => wpAny_Tuple_spliced (thn (h.run pos pins s σ H _ I hq) fun us s1 ⟨xs, H1, I1, r, z, q⟩ => ⟨by rw [← r.length]; exact z, laid_fz (k := s1.toks) I1 r z q⟩)⟩
/-- t + u -/
def rCatF (K : PySem.W.Frag) : R2 := fun x y H Q => ∃ a b xs ys, x = .ref a ∧ y = .ref b ∧ SqT K H a xs ∧ SqT K H b ys ∧ xs.length + ys.length ≤ sizeLine ∧
  (xs = [] → Q (.ref b) H) ∧ (xs ≠ [] → ys = [] → Q (.ref a) H) ∧ (xs ≠ [] → ys ≠ [] → Fz Q H (xs ++ ys))
theorem op_catF : OpR X (binaryOp .Add) (rCatF X.K) := by
  intro pins s σ H x y v u Q I rx ry h
  obtain ⟨a, b, xs, ys, rfl, rfl, ha, hb, hz, q0, q1, q2⟩ := h
  by_cases hx : xs = []
  · exact op_catA pins s σ H _ _ v u Q I rx ry ⟨a, b, xs, ys, rfl, rfl, ha, hb, hz, q0, q1, fun z => absurd hx z⟩
  · by_cases hy : ys = []
    · exact op_catA pins s σ H _ _ v u Q I rx ry ⟨a, b, xs, ys, rfl, rfl, ha, hb, hz, q0, q1, fun _ z => absurd hy z⟩
    · cases rx
      cases ry
      obtain ⟨its, r1, p1, _⟩ := I.tuple ha
      obtain ⟨its2, r2, p2, _⟩ := I.tuple hb
      refine HT.cat_tup p1 p2 (fun z => hx (r1.nil_iff.mp z)) (fun z => absurd (r2.nil_iff.mp z) hy) (fun z => ?_) (by rw [← r1.length, ← r2.length]; exact hz)
      exact laid_fz (k := s.toks) I (r1.append r2) (by rw [List.length_append]; exact hz) (q2 hx hy)
/-- t[lo:hi] -/
def rSlF (K : PySem.W.Frag) : V → Option Int → Option Int → Hp → VK → Prop := fun x lo hi H Q => ∃ a xs, x = .ref a ∧ SqT K H a xs ∧
  (HT.sIx xs.length 0 lo = 0 ∧ HT.sIx xs.length xs.length hi = xs.length → Q (.ref a) H) ∧ (¬ (HT.sIx xs.length 0 lo = 0 ∧ HT.sIx xs.length xs.length hi = xs.length) → Fz Q H (cutV xs lo hi))
theorem sl_tupF : SlR X (rSlF X.K) := by
  intro pins s σ H x v vl vu lo hi sl Q I rx hs pl pu h
  obtain ⟨a, xs, rfl, hx, q1, q2⟩ := h
  by_cases hw : HT.sIx xs.length 0 lo = 0 ∧ HT.sIx xs.length xs.length hi = xs.length
  · exact sl_tupA pins s σ H _ v vl vu lo hi sl Q I rx hs pl pu ⟨a, xs, rfl, hx, q1, fun z => absurd hw z⟩
  · cases rx
    obtain ⟨its, r, ht, hz⟩ := I.tuple hx
    have hlen : its.toArray.size = xs.length := by rw [List.size_toArray]; exact r.length.symm
    refine ⟨"tuple", _, PyProof.Rows.slot_tuple_getitem.lookup, ht.typeIs, ?_⟩
    refine HT.getItem_tuple_cut ht hs pl pu (by rw [hlen]; exact hw) ?_ (by rw [hlen]; exact hz)
    rw [hlen]
    exact laid_fz (k := s.toks) I ((r.drop (HT.sIx xs.length 0 lo)).take (HT.sIx xs.length xs.length hi - HT.sIx xs.length 0 lo)) (Nat.le_trans (cutV_length xs lo hi) hz) (q2 hw)
/-- tuple(xs) -/
theorem call_tuple_ofF : CallR X (.type "tuple") (fun xs H Q => ∃ p ys, xs = [.ref p] ∧ ((SqL X.K H p ys ∧ Fz Q H ys) ∨ (SqT X.K H p ys ∧ Q (.ref p) H))) := by
  intro pins s σ H xs us Q I r h
  obtain ⟨p, ys, rfl, ⟨hq, q⟩ | ⟨hq, q⟩⟩ := h
  · obtain ⟨u, rfl, rx⟩ := vals1 r
    cases rx
    obtain ⟨its, r', pl, hz⟩ := I.list hq
    have hlen := r'.length
    refine call_tuple_list pl.isList (fun h' kp => ?_) (by simp only [List.size_toArray] <;> omega)
    exact laid_fz (k := s.toks) (s := { s with heap := h' }) (I.kept (t' := s.toks) kp) r' hz q
  · exact call_tuple_of pins s σ H _ us Q I r ⟨p, ys, rfl, .inr ⟨hq, q⟩⟩
def KTup (K : PySem.W.Frag) (a : Addr) (vs : List V) : Prop := ∃ (o : Obj) (its : Array Value) (n : Nat), K.lookup a = some o ∧ o.cls = .type "tuple" ∧ o.dict = none ∧ o.data = .seq its n ∧ its.size ≤ sizeLine ∧ Vals vs its.toList
/-- a tuple of a known object -/
def TupK (K : PySem.W.Frag) (H : Hp) (a : Addr) (vs : List V) : Prop := (∃ o, o.dict = none ∧ H a = some (.frz o (.tup vs))) ∨ KTup K a vs
theorem TupK.sq {K : PySem.W.Frag} {a : Addr} (h : TupK K H a vs) : SqT K H a vs := by
  rcases h with ⟨o, _, e⟩ | ⟨o, its, n, h1, h2, _, h3, h4, h5⟩
  · exact .inl (.inr ⟨o, e⟩)
  · exact .inr ⟨o, its, n, h1, h2, h3, h4, h5⟩
instance {K : PySem.W.Frag} {H : Hp} {a : Addr} {vs : List V} : Coe (TupK K H a vs) (SqT K H a vs) := ⟨TupK.sq⟩
theorem TupK.nod {a : Addr} (I : Inv X pins σ H s) (h : TupK X.K H a vs) : ∃ ob, s.heap.get? a = some ob ∧ ob.dict = none := by
  rcases h with ⟨o, d, e⟩ | ⟨o, its, n, h1, _, d, _⟩
  · exact ⟨o, (I.hok a _ e).1, d⟩
  · exact ⟨o, I.kIn a o h1, d⟩
def rIdxT (K : PySem.W.Frag) : V → List V → Hp → VK → Prop := fun x xs H Q => ∃ (a : Addr) (ns : List Int) (k : Int), x = V.ref a ∧ xs = [.int k] ∧ SqT K H a (ns.map V.int) ∧ k ∈ ns ∧ Q (.int (ns.idxOf k : Nat)) H
theorem mt_idxT : MtR X "tuple.index" (rIdxT X.K) := by
  intro pins s σ H x xs v us Q I rx rxs h
  obtain ⟨a, ns, k, rfl, rfl, hs, hk, q⟩ := h
  cases rx
  obtain ⟨u, rfl, t, rfl⟩ := vals1 rxs
  obtain ⟨its, r, p, hz⟩ := I.tuple hs
  exact PySem.SeqAt.tuple_index_ints (show s.heap.IsTuple a its.toArray from p) (L2.intsAre_of (us := its) (by simpa using r)) hk ⟨.int (ns.idxOf k : Nat), H, I.tok _, ⟨_, rfl⟩, q⟩
/-- o.index(e), o a list or a tuple -/
def tIdxA (K : PySem.W.Frag) (to : TE) (t : TA) : TE := fun σ H Q => to σ H fun x H1 =>
  (tyV K "list" x H1 ∧ t σ H1 fun xs H2 => rIndexD K x xs H2 Q) ∨ ((∃ a vs, x = .ref a ∧ TupK K H1 a vs) ∧ t σ H1 fun xs H2 => rIdxT K x xs H2 Q)
theorem pe_idxA {o e : Expr} {to : TE} {ta : TA} {apos cpos : Pos} (hu : X.A.units + 65 < cLine) (ho : PE X o to) (ha : PA X [e] ta)
    (hbase : attributeBase o "index" X.env (eval o X.env) = eval o X.env := by rfl)
    (hfew : ((backTo cpos (starEach [e] X.env)).all (fun x => !x.1) && (backToKw cpos (keywordEach [] X.env)).all (fun x => x.1.isSome)
      && decide ([e].length + ([] : List Keyword).length + (if ([] : List Keyword).isEmpty then 0 else 1) < 30)) = true := by rfl)
    (hline : (apos.endLine == cpos.line) = true := by rfl) (hs : starEach [e] X.env = (false, eval e X.env) :: starEach [] X.env := by rfl) (hplain : (backTo cpos (starEach [] X.env)).any (·.1) = false := by rfl) :
    PE X (.Call (.Attribute o "index" apos) [e] [] cpos) (tIdxA X.K to ta) := by
  refine ⟨fun pins s σ H Q I h => ?_⟩
  refine wpAny_Call_method_late hbase hfew hline rfl (thn (ho.run pins s σ H _ I h) fun v s1 ⟨x, H1, I1, r1, q1⟩ => ?_)
  have fin : ∀ {id : String} {r : V → List V → Hp → VK → Prop} {q1 : ta σ H1 fun xs H2 => r x xs H2 Q} (hm : MtR X id r), wpAny (model X.prog X.w) X.A (callWith cpos (.builtin id) [v] (backTo cpos (starEach [e] X.env)) []) (EP X pins σ Q) X.xe s1 := fun {id r q1} hm => by
    have hA := ha.run cpos pins s1 σ H1 _ I1 q1
    rw [hs] at hA ⊢
    refine Calls.callWith_builtin (by show (false || (backTo cpos (starEach [] X.env)).any (·.1)) = false; rw [hplain] <;> rfl) (Calls.evalArgs_plain ?_)
    exact thn hA fun us s2 ⟨vs, H2, I2, r2, q2⟩ => hm pins s2 σ H2 x vs v us Q I2 r1 r2 q2
  rcases q1 with ⟨ty, q1⟩ | ⟨⟨a, vs, rfl, tk⟩, q1⟩
  · obtain ⟨h1, h2⟩ := tyV_is I1 r1 ty
    exact ⟨"list", "list.index", PySem.F.plainAttrs_list, PySem.F.slot_list_index, PySem.F.type_list_index, h1, h2, fin (q1 := q1) (mt_indexD hu)⟩
  · cases r1
    obtain ⟨its, _, p, _⟩ := I1.tuple tk.sq
    exact ⟨"tuple", "tuple.index", PySem.F.plainAttrs_tuple, PySem.F.slot_tuple_index, PySem.F.type_tuple_index, p.typeIs, fun b eb => by cases eb; exact tk.nod I1, fin (q1 := q1) mt_idxT⟩
end
end DL
set_option Elab.async false
set_option linter.all false
set_option maxRecDepth 100000
namespace DL
open PySem PySem.Spec PyProof.Rows L2
/-- data by value; ref: a thing by reference (a def, a class, an object in memory) -/
inductive D where
  | non | bl (b : Bool) | int (i : Int) | str (x : Str) | ty (n : String) | ref (a : Addr)
  | tup (xs : List D) | lst (xs : List D)
  | dic (kvs : List (Key × D))
/-- the written part alone -/
abbrev H0e : Hp := fun _ => none
def TupAt (K : PySem.W.Frag) (A : Addr → Prop) (H : Hp) (a : Addr) (vs : List V) : Prop := (¬ A a ∧ ∃ o, o.dict = none ∧ H a = some (.frz o (.tup vs))) ∨ KTup K a vs
def LstAt (A : Addr → Prop) (H : Hp) (a : Addr) (vs : List V) : Prop := ¬ A a ∧ H a = some (.lst vs)
/-- by value: it is never written again -/
def DicAt (A : Addr → Prop) (H : Hp) (a : Addr) (kvs : List (Key × V)) : Prop := ¬ A a ∧ ∃ o, H a = some (.frz o (.dK kvs))
section
variable (K : PySem.W.Frag) (A : Addr → Prop) (H : Hp)
mutual
/-- v bears d, standing on nothing that A names -/
inductive Is : V → D → Prop
  | non : Is .non .non
  | bl (b : Bool) : Is (.bl b) (.bl b)
  | int (i : Int) : Is (.int i) (.int i)
  | str (x : Str) : Is (.str x) (.str x)
  | ty (n : String) : Is (.ty n) (.ty n)
  | ref (a : Addr) : Is (.ref a) (.ref a)
  | tup {a : Addr} {vs : List V} {ds : List D} : TupAt K A H a vs → IsL vs ds → Is (.ref a) (.tup ds)
  | lst {a : Addr} {vs : List V} {ds : List D} : LstAt A H a vs → IsL vs ds → Is (.ref a) (.lst ds)
  | dic {a : Addr} {kvs : List (Key × V)} {kds : List (Key × D)} : DicAt A H a kvs → IsK kvs kds → Is (.ref a) (.dic kds)
inductive IsL : List V → List D → Prop
  | nil : IsL [] []
  | cons {v : V} {d : D} {vs : List V} {ds : List D} : Is v d → IsL vs ds → IsL (v :: vs) (d :: ds)
inductive IsK : List (Key × V) → List (Key × D) → Prop
  | nil : IsK [] []
  | cons {k : Key} {v : V} {d : D} {vs : List (Key × V)} {ds : List (Key × D)} : Is v d → IsK vs ds → IsK ((k, v) :: vs) ((k, d) :: ds)
end
end
/-- what is tracked and may not change stays, and may not change later either -/
def Step (A : Addr → Prop) (H : Hp) (A' : Addr → Prop) (H' : Hp) : Prop := ∀ a o, H a = some o → ¬ A a → H' a = some o ∧ ¬ A' a
theorem Step.refl (A : Addr → Prop) (H : Hp) : Step A H A H := fun _ _ h n => ⟨h, n⟩
theorem Step.trans {A A' A'' : Addr → Prop} {H H' H'' : Hp} (x : Step A H A' H') (y : Step A' H' A'' H'') : Step A H A'' H'' := fun a o h n =>
  let ⟨h1, n1⟩ := x a o h n
  y a o h1 n1
section
variable {K : PySem.W.Frag} {A A' B : Addr → Prop} {H H' : Hp}
theorem Rd.step {u : HO} {a : Addr} (s : Step A H A' H') (n : ¬ A a) (r : Rd H a u) : Rd H' a u ∧ ¬ A' a := by
  rcases r with r | ⟨o, r⟩
  · exact ⟨.inl (s a _ r n).1, (s a _ r n).2⟩
  · exact ⟨.inr ⟨o, (s a _ r n).1⟩, (s a _ r n).2⟩
theorem TupAt.step {a : Addr} {vs : List V} (s : Step A H A' H') (h : TupAt K A H a vs) : TupAt K A' H' a vs := by
  rcases h with ⟨n, o, d, e⟩ | h
  · exact .inl ⟨(s a _ e n).2, o, d, (s a _ e n).1⟩
  · exact .inr h
theorem LstAt.step {a : Addr} {vs : List V} (s : Step A H A' H') (h : LstAt A H a vs) : LstAt A' H' a vs := ⟨(s a _ h.2 h.1).2, (s a _ h.2 h.1).1⟩
theorem DicAt.step {a : Addr} {vs : List (Key × V)} (s : Step A H A' H') (h : DicAt A H a vs) : DicAt A' H' a vs := let ⟨n, o, e⟩ := h; ⟨(s a _ e n).2, o, (s a _ e n).1⟩
theorem SqL.of0 {a : Addr} {vs : List V} (h : SqL K H0e a vs) : SqL K H a vs := by
  rcases h with (h | ⟨o, h⟩) | h
  · cases h
  · cases h
  · exact .inr h
theorem TupAt.sq {a : Addr} {vs : List V} (h : TupAt K A H a vs) : SqT K H a vs := by
  rcases h with ⟨_, o, _, e⟩ | ⟨o, its, n, h1, h2, _, h3, h4, h5⟩
  · exact .inl (.inr ⟨o, e⟩)
  · exact .inr ⟨o, its, n, h1, h2, h3, h4, h5⟩
theorem TupAt.tk {a : Addr} {vs : List V} (h : TupAt K A H a vs) : TupK K H a vs := by
  rcases h with ⟨_, h⟩ | h
  · exact .inl h
  · exact .inr h
mutual
theorem Is.step (s : Step A H A' H') : ∀ {v : V} {d : D}, Is K A H v d → Is K A' H' v d
  | _, _, .non => .non
  | _, _, .bl b => .bl b
  | _, _, .int i => .int i
  | _, _, .str x => .str x
  | _, _, .ty n => .ty n
  | _, _, .ref a => .ref a
  | _, _, .tup h l => .tup (h.step s) (IsL.step s l)
  | _, _, .lst h l => .lst (h.step s) (IsL.step s l)
  | _, _, .dic h l => .dic (h.step s) (IsK.step s l)
theorem IsL.step (s : Step A H A' H') : ∀ {v : List V} {d : List D}, IsL K A H v d → IsL K A' H' v d
  | _, _, .nil => .nil
  | _, _, .cons h l => .cons (Is.step s h) (IsL.step s l)
theorem IsK.step (s : Step A H A' H') : ∀ {v : List (Key × V)} {d : List (Key × D)}, IsK K A H v d → IsK K A' H' v d
  | _, _, .nil => .nil
  | _, _, .cons h l => .cons (Is.step s h) (IsK.step s l)
end
theorem IsL.length : ∀ {vs : List V} {ds : List D}, IsL K A H vs ds → vs.length = ds.length
  | _, _, .nil => rfl
  | _, _, .cons _ l => congrArg (· + 1) (IsL.length l)
theorem IsL.get : ∀ {vs : List V} {ds : List D} {i : Nat} {d : D}, IsL K A H vs ds → ds[i]? = some d → ∃ v, vs[i]? = some v ∧ Is K A H v d
  | _, _, _, _, .nil, e => by simp at e
  | _, _, 0, _, .cons h _, e => by simp at e; subst e; exact ⟨_, rfl, h⟩
  | _, _, i + 1, d, .cons _ t, e => by
    obtain ⟨v, h1, h2⟩ := IsL.get (i := i) (d := d) t (by simpa using e)
    exact ⟨v, by simpa using h1, h2⟩
theorem IsL.append : ∀ {vs ws : List V} {ds es : List D}, IsL K A H vs ds → IsL K A H ws es → IsL K A H (vs ++ ws) (ds ++ es)
  | _, _, _, _, .nil, y => y
  | _, _, _, _, .cons h t, y => .cons h (IsL.append t y)
theorem IsL.take : ∀ {vs : List V} {ds : List D} (n : Nat), IsL K A H vs ds → IsL K A H (vs.take n) (ds.take n)
  | _, _, 0, _ => .nil
  | _, _, _ + 1, .nil => .nil
  | _, _, n + 1, .cons h t => .cons h (IsL.take n t)
theorem IsL.drop : ∀ {vs : List V} {ds : List D} (n : Nat), IsL K A H vs ds → IsL K A H (vs.drop n) (ds.drop n)
  | _, _, 0, h => h
  | _, _, _ + 1, .nil => .nil
  | _, _, n + 1, .cons _ t => IsL.drop n t
theorem IsL.set {v : V} {d : D} (h : Is K A H v d) : ∀ {vs : List V} {ds : List D} (i : Nat), IsL K A H vs ds → IsL K A H (vs.set i v) (ds.set i d)
  | _, _, _, .nil => .nil
  | _, _, 0, .cons _ t => .cons h t
  | _, _, i + 1, .cons q t => .cons q (IsL.set h i t)
theorem IsL.reverse : ∀ {vs : List V} {ds : List D}, IsL K A H vs ds → IsL K A H vs.reverse ds.reverse
  | _, _, .nil => .nil
  | _, _, .cons h t => by
    rw [List.reverse_cons, List.reverse_cons]
    exact (IsL.reverse t).append (.cons h .nil)
theorem IsL.ints : ∀ (ns : List Int), IsL K A H (ns.map V.int) (ns.map D.int)
  | [] => .nil
  | n :: r => .cons (.int n) (IsL.ints r)
end
mutual
def D.py : D → PyData
  | .non => .none
  | .bl b => .bool b
  | .int i => .int i
  | .str x => .str x
  | .tup xs => .tuple (D.pyL xs)
  | .lst xs => .list (D.pyL xs)
  | _ => .none
def D.pyL : List D → List PyData
  | [] => []
  | d :: r => d.py :: D.pyL r
end
mutual
/-- no reference, no type, no dict within -/
def D.pl : D → Bool
  | .non | .bl _ | .int _ | .str _ => true
  | .tup xs | .lst xs => D.plL xs
  | _ => false
def D.plL : List D → Bool
  | [] => true
  | d :: r => d.pl && D.plL r
end
section
variable {K : PySem.W.Frag} {A : Addr → Prop} {H : Hp}
mutual
theorem Is.dp : ∀ {v : V} {d : D}, Is K A H v d → d.pl = true → Dp K H v d.py
  | _, _, .non, _ => .non
  | _, _, .bl b, _ => .bl b
  | _, _, .int i, _ => .int i
  | _, _, .str x, _ => .str x
  | _, _, .ty n, h => by simp [D.pl] at h
  | _, _, .ref a, h => by simp [D.pl] at h
  | _, _, .tup h l, e => .tup h.sq (IsL.dp l (by simpa [D.pl] using e))
  | _, _, .lst h l, e => .lst (SqL.of h.2) (IsL.dp l (by simpa [D.pl] using e))
  | _, _, .dic h l, e => by simp [D.pl] at e
theorem IsL.dp : ∀ {vs : List V} {ds : List D}, IsL K A H vs ds → D.plL ds = true → DpAll K H vs (D.pyL ds)
  | _, _, .nil, _ => .nil
  | _, _, .cons h l, e => by
    have e' : _ ∧ _ := Bool.and_eq_true_iff.mp (by simpa only [D.plL] using e)
    exact .cons (Is.dp h e'.1) (IsL.dp l e'.2)
end
end
/-- a slot's, or a field's, own list or dict -/
inductive OM where
  | lst (ds : List D) | dic (kvs : List (Key × D))
inductive Fl where
  | v (d : D) | o (m : OM)
inductive MO where
  | om (m : OM)
  | ins (C : Addr) (fs : List (Str × Fl))
  /-- a dict of the law's drawing: by what is true of it -/
  | st
  /-- a thing of any other kind -/
  | ho (o : HO)
  /-- a def's table of code objects: all that it tells bear the name q -/
  | tab (q : Str)
abbrev Mem := Addr → Option MO
def mup (M : Mem) (a : Addr) (o : MO) : Mem := fun b => if b = a then some o else M b
theorem mup_same {M : Mem} {a : Addr} {o : MO} : mup M a o a = some o := by unfold mup; rw [if_pos rfl]
theorem mup_ne {M : Mem} {a b : Addr} {o : MO} (h : b ≠ a) : mup M a o b = M b := by unfold mup; rw [if_neg h]
theorem mup_mup {M : Mem} {a : Addr} {o u : MO} : mup (mup M a o) a u = mup M a u := by
  funext b; unfold mup; split <;> rfl
theorem mup_self {M : Mem} {a : Addr} {o : MO} (h : M a = some o) : mup M a o = M := by
  funext b; unfold mup; split
  · rename_i e; rw [e, h]
  · rfl
/-- whose an address is: the i-th slot's, or a field's -/
inductive Ow where
  | slot (i : Nat) | fld (a : Addr) (f : Str)
abbrev Own := Addr → Option Ow
def Mut (M : Mem) (O : Own) (a : Addr) : Prop := M a ≠ none ∨ O a ≠ none
def Av (B : Addr → Prop) (M : Mem) (O : Own) (a : Addr) : Prop := B a ∨ Mut M O a
section
variable (K : PySem.W.Frag) (A : Addr → Prop) (H : Hp)
def OOk (a : Addr) : OM → Prop
  | .lst ds => ∃ vs, H a = some (.lst vs) ∧ IsL K A H vs ds
  | .dic kds => ∃ kvs, H a = some (.dK kvs) ∧ IsK K A H kvs kds
/-- the drawing's state, as its dict's entries -/
def stD (ns : List Int) (at_ rest turn more : Int) : List (Key × D) :=
  [(Sum.inr "cells", D.lst (ns.map D.int)), (Sum.inr "at", D.int at_), (Sum.inr "rest", D.int rest), (Sum.inr "turn", D.int turn), (Sum.inr "more", D.int more)]
def StOk (kvs : List (Key × D)) : Prop := ∃ (ns : List Int) (at_ rest turn more : Int), kvs = stD ns at_ rest turn more ∧
  ns.length ≤ 63 ∧ (∀ n ∈ ns, 0 ≤ n) ∧ 0 ≤ at_ ∧ 0 ≤ rest ∧ 0 ≤ turn ∧ 0 ≤ more ∧ more < 2147483648
inductive FlsOk (O : Own) (a : Addr) : List (Str × V) → List (Str × Fl) → Prop
  | nil : FlsOk O a [] []
  | v {f : Str} {v : V} {d : D} {vs : List (Str × V)} {fs : List (Str × Fl)} : Is K A H v d → FlsOk O a vs fs → FlsOk O a ((f, v) :: vs) ((f, .v d) :: fs)
  | o {f : Str} {l : Addr} {m : OM} {vs : List (Str × V)} {fs : List (Str × Fl)} : O l = some (.fld a f) → OOk K A H l m → FlsOk O a vs fs → FlsOk O a ((f, .ref l) :: vs) ((f, .o m) :: fs)
def TabOk (a : Addr) (q : Str) : Prop := ∃ ps : Array Value, H a = some (.tbl ps) ∧ TriplesOk ps.toList ∧ ∀ (pos : Pos) (cv : Value), codeAmong pos ps.toList = some cv → ∃ c, cv = .ref c ∧ H c = some (LamX.CodeO c q) ∧ ¬ A c
def MOk (O : Own) (a : Addr) : MO → Prop
  | .om m => OOk K A H a m
  | .ins C fs => ∃ dx vs, H a = some (.ins C dx vs) ∧ FlsOk K A H O a vs fs
  | .st => ∃ kds, StOk kds ∧ OOk K A H a (.dic kds)
  | .ho o => H a = some o
  | .tab q => TabOk A H a q
end
structure MemOk (K : PySem.W.Frag) (B : Addr → Prop) (H : Hp) (M : Mem) (O : Own) : Prop where
  mem : ∀ a mo, M a = some mo → ¬ B a ∧ O a = none ∧ MOk K (Av B M O) H O a mo
  own : ∀ a w, O a = some w → ¬ B a ∧ H a ≠ none
  btr : ∀ a, B a → H a ≠ none
/-- what a lambda that was handed in does: its address, where it was made, its reading -/
structure Lm where
  f : Addr
  U : Addr → Prop
  H : Hp
  tl : Mem → (D → Mem → Prop) → (Addr → Mem → Prop) → Prop
/-- a slot: unset, a value, an own list or dict, a list or tuple that is lent (true: a tuple), the script -/
inductive Sl where
  | n | v (d : D) | o (m : OM) | b (k : Bool) (ds : List D) | s (ns : List Int) | f (l : Lm)
/-- it stands, as long as nothing but what U names changes -/
def Lent (k : Bool) (K : PySem.W.Frag) (U : Addr → Prop) (H : Hp) (a : Addr) (vs : List V) : Prop := if k = true then TupAt K U H a vs else LstAt U H a vs
theorem Lent.step {k : Bool} {K : PySem.W.Frag} {U U' : Addr → Prop} {H H' : Hp} {a : Addr} {vs : List V} (s : Step U H U' H') (h : Lent k K U H a vs) : Lent k K U' H' a vs := by
  cases k with
  | true => exact TupAt.step s (show TupAt K U H a vs from h)
  | false => exact LstAt.step s (show LstAt U H a vs from h)
/-- the script -/
def ScrAt (K : PySem.W.Frag) (U : Addr → Prop) (H : Hp) (a : Addr) (ns : List Int) : Prop := (¬ U a ∧ Rd H a (.lst (ns.map V.int))) ∨ SqL K H0e a (ns.map V.int)
theorem ScrAt.step {K : PySem.W.Frag} {U U' : Addr → Prop} {H H' : Hp} {a : Addr} {vs : List Int} (s : Step U H U' H') (h : ScrAt K U H a vs) : ScrAt K U' H' a vs := by
  rcases h with ⟨n, r⟩ | h
  · exact .inl ⟨(Rd.step s n r).2, (Rd.step s n r).1⟩
  · exact .inr h
theorem ScrAt.sq {K : PySem.W.Frag} {U : Addr → Prop} {H : Hp} {a : Addr} {vs : List Int} (h : ScrAt K U H a vs) : SqL K H a (vs.map V.int) := by
  rcases h with ⟨_, h⟩ | h
  · exact .inl h
  · exact SqL.of0 h
def SlU (K : PySem.W.Frag) (A U : Addr → Prop) (O : Own) (H : Hp) (i : Nat) (x : Option V) : Sl → Prop
  | .n => True
  | .v d => ∃ v, x = some v ∧ Is K A H v d
  | .o m => ∃ a, x = some (.ref a) ∧ O a = some (.slot i) ∧ OOk K A H a m
  | .b k ds => ∃ a vs, x = some (.ref a) ∧ Lent k K U H a vs ∧ IsL K A H vs ds
  | .s ns => ∃ a, x = some (.ref a) ∧ ScrAt K U H a ns
  | .f l => x = some (.ref l.f) ∧ Step l.U l.H A H
abbrev SlOk (K : PySem.W.Frag) (B : Addr → Prop) (H : Hp) (M : Mem) (O : Own) (i : Nat) (x : Option V) (s : Sl) : Prop := SlU K (Av B M O) (Mut M O) O H i x s
/-- a def's frame over data: its slots, what is wanted of an exception (its class, the memory) -/
structure Fr where
  sl : List Sl
  ex : Addr → Mem → Prop
/-- at the entry of a def (or of a loop): the heap, what might change; what is wanted of an exception there -/
structure En where
  B : Addr → Prop
  H : Hp
  U : Addr → Prop
  X : Addr → Mem → Prop
  W : Addr → Hp → Prop
/-- an exception of an own class without fields -/
def xk (W : Addr → Hp → Prop) : XK := fun cls d H => ∃ C, cls = .ref C ∧ d = none ∧ W C H
structure Rep (X : Cx) (B : Addr → Prop) (E : En) (σ : L2.St) (H : Hp) (r : Fr) (M : Mem) (O : Own) : Prop where
  m : MemOk X.K B H M O
  len : σ.length = r.sl.length
  sl : ∀ i s, r.sl[i]? = some s → SlOk X.K B H M O i ((σ[i]?).getD none) s
  ent : Step E.U E.H (Mut M O) H
  sub : ∀ b, E.B b → B b
  exc : ∀ C M' H' O', MemOk X.K E.B H' M' O' → Step E.U E.H (Mut M' O') H' → E.X C M' → E.W C H'
  lk : Takes X (fun cls d _ H => xk E.W cls d H)
  xe : r.ex = E.X
theorem Rep.ps {X : Cx} {B : Addr → Prop} {E : En} {σ : L2.St} {H : Hp} {r : Fr} {M : Mem} {O : Own} (R : Rep X B E σ H r M O) : Passes (L2.CX X.prog X.w) X (xk E.W) := passes_call R.lk fun _ _ _ _ h => h
end DL
set_option Elab.async false
set_option linter.all false
set_option maxRecDepth 100000
namespace DL
open PySem PySem.Spec PyProof.Rows L2
section
variable {X : Cx} {K : PySem.W.Frag} {B : Addr → Prop} {E : En} {σ : L2.St} {H H' H'' : Hp} {r : Fr} {M M' M'' : Mem} {O O' O'' : Own} {p : Bool}
theorem step_same {A A' : Addr → Prop} (h : Same H H') (hA : ∀ a, ¬ A a → ¬ A' a) : Step A H A' H' := fun a o e n => ⟨h a o e, hA a n⟩
theorem OOk.same {A : Addr → Prop} (h : Same H H') {a : Addr} : ∀ {m : OM}, OOk K A H a m → OOk K A H' a m
  | .lst _, ⟨vs, e, l⟩ => ⟨vs, h _ _ e, l.step (step_same h fun _ n => n)⟩
  | .dic _, ⟨vs, e, l⟩ => ⟨vs, h _ _ e, l.step (step_same h fun _ n => n)⟩
theorem FlsOk.same {A : Addr → Prop} (h : Same H H') {a : Addr} : ∀ {vs : List (Str × V)} {fs : List (Str × Fl)}, FlsOk K A H O a vs fs → FlsOk K A H' O a vs fs
  | _, _, .nil => .nil
  | _, _, .v i t => .v (i.step (step_same h fun _ n => n)) (FlsOk.same h t)
  | _, _, .o e i t => .o e (i.same h) (FlsOk.same h t)
theorem MOk.same {A : Addr → Prop} (h : Same H H') {a : Addr} : ∀ {m : MO}, MOk K A H O a m → MOk K A H' O a m
  | .om m, x => OOk.same h x
  | .ins _ _, ⟨dx, vs, e, x⟩ => ⟨dx, vs, h _ _ e, x.same h⟩
  | .st, ⟨kds, s, x⟩ => ⟨kds, s, OOk.same h x⟩
  | .ho _, e => h _ _ e
  | .tab _, ⟨ps, e, t, q⟩ => ⟨ps, h _ _ e, t, fun pos cv z => let ⟨c, e1, e2, n⟩ := q pos cv z; ⟨c, e1, h _ _ e2, n⟩⟩
theorem MemOk.same (h : Same H H') (x : MemOk K B H M O) : MemOk K B H' M O where
  mem := fun a mo e => let ⟨h1, h2, h3⟩ := x.mem a mo e; ⟨h1, h2, h3.same h⟩
  own := fun a w e => let ⟨h1, h2⟩ := x.own a w e; ⟨h1, fun z => h2 (h.free z)⟩
  btr := fun a e z => x.btr a e (h.free z)
theorem SlOk.same (h : Same H H') {i : Nat} {x : Option V} : ∀ {s : Sl}, SlOk K B H M O i x s → SlOk K B H' M O i x s
  | .n, _ => trivial
  | .v d, ⟨v, e, q⟩ => ⟨v, e, q.step (step_same h fun _ n => n)⟩
  | .o m, ⟨a, e, o, q⟩ => ⟨a, e, o, q.same h⟩
  | .b k ds, ⟨a, vs, e, q, l⟩ => ⟨a, vs, e, q.step (step_same h fun _ n => n), l.step (step_same h fun _ n => n)⟩
  | .s ns, ⟨a, e, q⟩ => ⟨a, e, q.step (step_same h fun _ n => n)⟩
  | .f l, ⟨e, q⟩ => ⟨e, q.trans (step_same h fun _ n => n)⟩
theorem Rep.same (h : Same H H') (x : Rep X B E σ H r M O) : Rep X B E σ H' r M O where
  m := x.m.same h
  len := x.len
  sl := fun i s e => (x.sl i s e).same h
  ent := x.ent.trans (step_same h fun _ n => n)
  sub := x.sub
  exc := x.exc
  lk := x.lk
  xe := x.xe
/-- how the state has gone on; p: nothing that stood has changed -/
def Rl (p : Bool) (M : Mem) (O : Own) (H : Hp) (M' : Mem) (O' : Own) (H' : Hp) : Prop := (p = true → M' = M ∧ O' = O ∧ Same H H') ∧ Step (Mut M O) H (Mut M' O') H'
theorem Rl.refl : Rl p M O H M O H := ⟨fun _ => ⟨rfl, rfl, Same.refl _⟩, Step.refl _ _⟩
theorem Rl.of_same (h : Same H H') : Rl p M O H M O H' := ⟨fun _ => ⟨rfl, rfl, h⟩, step_same h fun _ n => n⟩
theorem Rl.trans (x : Rl p M O H M' O' H') (y : Rl p M' O' H' M'' O'' H'') : Rl p M O H M'' O'' H'' :=
  ⟨fun e => by
    obtain ⟨a1, a2, a3⟩ := x.1 e
    obtain ⟨b1, b2, b3⟩ := y.1 e
    exact ⟨b1.trans a1, b2.trans a2, a3.trans b3⟩, x.2.trans y.2⟩
theorem Rl.weak (x : Rl true M O H M' O' H') : Rl p M O H M' O' H' := ⟨fun _ => x.1 rfl, x.2⟩
theorem Rl.avs (x : Rl p M O H M' O' H') : Step (Av B M O) H (Av B M' O') H' := fun a o e n =>
  have n1 : ¬ B a := fun z => n (.inl z)
  have ⟨h1, h2⟩ := x.2 a o e fun z => n (.inr z)
  ⟨h1, fun z => z.elim n1 h2⟩
/-- shallow: the list or tuple itself may be one that changes later -/
def Is1 (K : PySem.W.Frag) (A : Addr → Prop) (H : Hp) (v : V) : D → Prop
  | .tup ds => ∃ a vs, v = .ref a ∧ TupK K H a vs ∧ IsL K A H vs ds
  | .lst ds => ∃ a vs, v = .ref a ∧ H a = some (.lst vs) ∧ IsL K A H vs ds
  | .dic kds => ∃ a kvs, v = .ref a ∧ Rd H a (.dK kvs) ∧ IsK K A H kvs kds
  | d => Is K A H v d
theorem Is.one {A : Addr → Prop} : ∀ {v : V} {d : D}, Is K A H v d → Is1 K A H v d
  | _, _, .non => .non
  | _, _, .bl b => .bl b
  | _, _, .int b => .int b
  | _, _, .str b => .str b
  | _, _, .ty b => .ty b
  | _, _, .ref b => .ref b
  | _, _, .tup h l => ⟨_, _, rfl, h.tk, l⟩
  | _, _, .lst h l => ⟨_, _, rfl, h.2, l⟩
  | _, _, .dic h l => ⟨_, _, rfl, .inr h.2, l⟩
theorem SqT.same {a : Addr} {vs : List V} (e : Same H H') (h : SqT K H a vs) : SqT K H' a vs := by
  rcases h with (h | ⟨o, h⟩) | h
  · exact .inl (.inl (e _ _ h))
  · exact .inl (.inr ⟨o, e _ _ h⟩)
  · exact .inr h
theorem Rd.same {a : Addr} {u : HO} (e : Same H H') (h : Rd H a u) : Rd H' a u := by
  rcases h with h | ⟨o, h⟩
  · exact .inl (e _ _ h)
  · exact .inr ⟨o, e _ _ h⟩
theorem TupK.same {a : Addr} {vs : List V} (e : Same H H') (h : TupK K H a vs) : TupK K H' a vs := by
  rcases h with ⟨o, d, h⟩ | h
  · exact .inl ⟨o, d, e _ _ h⟩
  · exact .inr h
theorem Is1.same {A : Addr → Prop} (e : Same H H') {v : V} : ∀ {d : D}, Is1 K A H v d → Is1 K A H' v d
  | .tup _, ⟨a, vs, h1, h2, h3⟩ => ⟨a, vs, h1, TupK.same e h2, h3.step (step_same e fun _ n => n)⟩
  | .lst _, ⟨a, vs, h1, h2, h3⟩ => ⟨a, vs, h1, e _ _ h2, h3.step (step_same e fun _ n => n)⟩
  | .dic _, ⟨a, vs, h1, h2, h3⟩ => ⟨a, vs, h1, Rd.same e h2, h3.step (step_same e fun _ n => n)⟩
  | .non, h => Is.step (step_same e fun _ n => n) h
  | .bl _, h => Is.step (step_same e fun _ n => n) h
  | .int _, h => Is.step (step_same e fun _ n => n) h
  | .str _, h => Is.step (step_same e fun _ n => n) h
  | .ty _, h => Is.step (step_same e fun _ n => n) h
  | .ref _, h => Is.step (step_same e fun _ n => n) h
def IsX (w : Bool) (K : PySem.W.Frag) (A : Addr → Prop) (H : Hp) (v : V) (d : D) : Prop := if w = true then Is K A H v d else Is1 K A H v d
theorem IsX.one {A : Addr → Prop} {w : Bool} {v : V} {d : D} (h : IsX w K A H v d) : Is1 K A H v d := by
  cases w with
  | true => exact Is.one h
  | false => exact h
/-- it is kept while the next one is reckoned -/
theorem IsX.next {w : Bool} {v : V} {d : D} (hw : (w || p) = true) (l : Rl p M O H M' O' H') (h : IsX w K (Av B M O) H v d) : IsX w K (Av B M' O') H' v d := by
  cases w with
  | true => exact Is.step l.avs h
  | false =>
    have hp : p = true := hw
    obtain ⟨e1, e2, e3⟩ := l.1 hp
    subst e1; subst e2
    exact Is1.same e3 h
end
abbrev GE := Fr → Mem → (D → Mem → Prop) → Prop
abbrev GT := Fr → Mem → (Bool → Mem → Prop) → Prop
def LE (w p : Bool) (X : Cx) (B : Addr → Prop) (E : En) (σ : L2.St) (r : Fr) (H : Hp) (M : Mem) (O : Own) (Q : VK) : D → Mem → Prop := fun d M' =>
  ∀ v H' O', Rep X B E σ H' r M' O' → Rl p M O H M' O' H' → IsX w X.K (Av B M' O') H' v d → Q v H'
def LT (p : Bool) (X : Cx) (B : Addr → Prop) (E : En) (σ : L2.St) (r : Fr) (H : Hp) (M : Mem) (O : Own) (Q : Bool → Hp → Prop) : Bool → Mem → Prop := fun b M' =>
  ∀ H' O', Rep X B E σ H' r M' O' → Rl p M O H M' O' H' → Q b H'
/-- w: the value is kept apart from what changes later; p: nothing that stood is changed -/
structure DE (w p : Bool) (X : Cx) (e : Expr) (g : GE) : Prop where
  run : PE X e (fun σ H Q => ∃ B E r M O, Rep X B E σ H r M O ∧ g r M (LE w p X B E σ r H M O Q))
  mono : ∀ r M Q Q', (∀ d M', Q d M' → Q' d M') → g r M Q → g r M Q'
structure DT (p : Bool) (X : Cx) (e : Expr) (g : GT) : Prop where
  run : PT X e (fun σ H Q => ∃ B E r M O, Rep X B E σ H r M O ∧ g r M (LT p X B E σ r H M O Q))
  mono : ∀ r M Q Q', (∀ d M', Q d M' → Q' d M') → g r M Q → g r M Q'
theorem peI {X : Cx} {e : Expr} {t t' : TE} (h : PE X e t) (i : ∀ σ H Q, t' σ H Q → t σ H Q) : PE X e t' := ⟨fun pins s σ H Q I q => h.run pins s σ H Q I (i σ H Q q)⟩
theorem ptI {X : Cx} {e : Expr} {t t' : TT} (h : PT X e t) (i : ∀ σ H Q, t' σ H Q → t σ H Q) : PT X e t' := ⟨fun pins s σ H Q I q => h.run pins s σ H Q I (i σ H Q q)⟩
theorem pwI {X : Cx} {e : Expr} {t t' : TT} (h : PW X e t) (i : ∀ σ H Q, t' σ H Q → t σ H Q) : PW X e t' := ⟨fun wh pins s σ H Q I q => h.run wh pins s σ H Q I (i σ H Q q)⟩
section
variable {X : Cx} {w w1 w2 p : Bool} {a b c e : Expr} {g ga gb gc : GE} {B : Addr → Prop} {E : En} {σ : L2.St} {H : Hp} {r : Fr} {M : Mem} {O : Own} {pos : Pos}
theorem DE.on (ha : DE w p X e g) (R : Rep X B E σ H r M O) {k : D → Mem → Prop} (h : g r M k) {Q : VK}
    (hk : ∀ d M1 v H1 O1, k d M1 → Rep X B E σ H1 r M1 O1 → Rl p M O H M1 O1 H1 → IsX w X.K (Av B M1 O1) H1 v d → Q v H1) :
    ∃ B E r M O, Rep X B E σ H r M O ∧ g r M (LE w p X B E σ r H M O Q) :=
  ⟨B, E, r, M, O, R, ha.mono r M _ _ (fun d M1 h1 v H1 O1 R1 l1 i1 => hk d M1 v H1 O1 h1 R1 l1 i1) h⟩
theorem DT.on {gt : GT} (ha : DT p X e gt) (R : Rep X B E σ H r M O) {k : Bool → Mem → Prop} (h : gt r M k) {Q : Bool → Hp → Prop}
    (hk : ∀ d M1 H1 O1, k d M1 → Rep X B E σ H1 r M1 O1 → Rl p M O H M1 O1 H1 → Q d H1) :
    ∃ B E r M O, Rep X B E σ H r M O ∧ gt r M (LT p X B E σ r H M O Q) :=
  ⟨B, E, r, M, O, R, ha.mono r M _ _ (fun d M1 h1 H1 O1 R1 l1 => hk d M1 H1 O1 h1 R1 l1) h⟩
/-- a pure one where any is asked -/
theorem DE.up (h : DE w true X e g) : DE w p X e g :=
  ⟨peI h.run fun σ H Q ⟨B, E, r, M, O, R, q⟩ => h.on R q fun d M1 v H1 O1 k R1 l i => k v H1 O1 R1 l.weak i, h.mono⟩
theorem DT.up {gt : GT} (h : DT true X e gt) : DT p X e gt :=
  ⟨ptI h.run fun σ H Q ⟨B, E, r, M, O, R, q⟩ => h.on R q fun d M1 H1 O1 k R1 l => k H1 O1 R1 l.weak, h.mono⟩
def gC (d : D) : GE := fun _ M Q => Q d M
theorem de_int {i j} : DE true p X (.Constant (.int i) j pos) (gC (.int i)) :=
  ⟨peI pe_int fun σ H Q ⟨B, E, r, M, O, R, q⟩ => q _ H O R Rl.refl (.int i), fun _ _ _ _ h q => h _ _ q⟩
theorem de_bl {i j} : DE true p X (.Constant (.bool i) j pos) (gC (.bl i)) :=
  ⟨peI pe_bl fun σ H Q ⟨B, E, r, M, O, R, q⟩ => q _ H O R Rl.refl (.bl i), fun _ _ _ _ h q => h _ _ q⟩
theorem de_non {j} : DE true p X (.Constant .none j pos) (gC .non) :=
  ⟨peI pe_non fun σ H Q ⟨B, E, r, M, O, R, q⟩ => q _ H O R Rl.refl .non, fun _ _ _ _ h q => h _ _ q⟩
theorem de_str {x j} : DE true p X (.Constant (.str x) j pos) (gC (.str x)) :=
  ⟨peI pe_str fun σ H Q ⟨B, E, r, M, O, R, q⟩ => q _ H O R Rl.refl (.str x), fun _ _ _ _ h q => h _ _ q⟩
theorem Rep.slot {i : Nat} {s : Sl} (R : Rep X B E σ H r M O) (h : r.sl[i]? = some s) : ∃ x, σ[i]? = some x ∧ SlOk X.K B H M O i x s := by
  have hi : i < r.sl.length := by
    obtain ⟨h1, _⟩ := List.getElem?_eq_some_iff.mp h
    exact h1
  have hs : i < σ.length := by rw [R.len]; exact hi
  refine ⟨σ[i], List.getElem?_eq_getElem hs, ?_⟩
  have q := R.sl i s h
  rw [List.getElem?_eq_getElem hs] at q
  exact q
/-- a name's value -/
def gV (i : Nat) : GE := fun r M Q => match r.sl[i]? with
  | some (.v d) => Q d M
  | _ => False
theorem de_var (i : Nat) {x : Str} (hN : X.N[i]? = some x := by rfl) (hv : Vis X.env.scope x := by first | exact Or.inl rfl | exact Or.inr (Or.inl rfl) | exact Or.inr (Or.inr rfl)) (hd : (x == ("__debug__" : Str)) = false := by decide)
    (hcd : (x == ("__classdict__" : Str)) = false := by decide) : DE true p X (.Name x pos) (gV i) := by
  refine ⟨peI (pe_var hN hv hd hcd) fun σ H Q ⟨B, E, r, M, O, R, q⟩ => ?_, fun r M Q Q' h q => ?_⟩
  · unfold gV at q
    split at q
    · rename_i d e
      obtain ⟨x, e1, v, e2, i1⟩ := R.slot e
      subst e2
      exact ⟨v, e1, q v H O R Rl.refl i1⟩
    · exact q.elim
  · unfold gV at q ⊢
    split at q
    · exact h _ _ q
    · exact q.elim
/-- .. shallow: an own list, a lent one too -/
def gVw (i : Nat) : GE := fun r M Q => match r.sl[i]? with
  | some (.v d) => Q d M
  | some (.o (.lst ds)) => Q (.lst ds) M
  | some (.o (.dic ds)) => Q (.dic ds) M
  | some (.b true ds) => Q (.tup ds) M
  | some (.b false ds) => Q (.lst ds) M
  | _ => False
/-- a module's constant that is a value of the written part, by what is known of it -/
theorem de_glob {x : Str} {v : V} {u : Value} {d : D} (hg : Gl X x) (hm : X.mg x = some u) (hr : RelV v u) (hi : ∀ A H, Is X.K A H v d) (hd : (x == ("__debug__" : Str)) = false := by decide) : DE true p X (.Name x pos) (gC d) :=
  ⟨peI (pe_glob hg hm hr hd) fun σ H Q ⟨B, E, r, M, O, R, q⟩ => q _ H O R Rl.refl (hi _ _), fun _ _ _ _ h q => h _ _ q⟩
end
end DL
set_option Elab.async false
set_option linter.all false
set_option maxRecDepth 100000
namespace DL
open PySem PySem.Spec PyProof.Rows L2
section
variable {X : Cx} {K : PySem.W.Frag} {B : Addr → Prop} {E : En} {σ : L2.St} {H H' : Hp} {r : Fr} {M : Mem} {O : Own} {p w : Bool} {Q : VK}
theorem OOk.there {A : Addr → Prop} {a : Addr} : ∀ {m : OM}, OOk K A H a m → H a ≠ none
  | .lst _, ⟨_, e, _⟩ => fun z => by rw [z] at e; cases e
  | .dic _, ⟨_, e, _⟩ => fun z => by rw [z] at e; cases e
theorem MOk.there {A : Addr → Prop} {a : Addr} : ∀ {m : MO}, MOk K A H O a m → H a ≠ none
  | .om _, x => OOk.there x
  | .ins _ _, ⟨_, _, e, _⟩ => fun z => by rw [z] at e; cases e
  | .st, ⟨_, _, x⟩ => OOk.there x
  | .ho _, e => fun z => by
    have e : H a = some _ := e
    rw [z] at e; cases e
  | .tab _, ⟨_, e, _⟩ => fun z => by rw [z] at e; cases e
theorem MemOk.fresh (x : MemOk K B H M O) {a : Addr} (n : H a = none) : ¬ Av B M O a := fun z => by
  rcases z with z | z | z
  · exact x.btr a z n
  · cases e : M a with
    | none => exact z e
    | some mo => exact (x.mem a mo e).2.2.there n
  · cases e : O a with
    | none => exact z e
    | some o => exact (x.own a o e).2 n
theorem same_upd {a : Addr} {o : HO} (n : H a = none) : Same H (upd H a o) := fun b u e => by
  rw [upd_ne (ne_of_none e n)]; exact e
theorem Is.up {A : Addr → Prop} (h : Same H H') {v : V} {d : D} (x : Is K A H v d) : Is K A H' v d := x.step (step_same h fun _ n => n)
theorem IsL.up {A : Addr → Prop} (h : Same H H') {v : List V} {d : List D} (x : IsL K A H v d) : IsL K A H' v d := x.step (step_same h fun _ n => n)
theorem IsX.of {A : Addr → Prop} {v : V} {d : D} (h : Is K A H v d) : IsX w K A H v d := by
  cases w with
  | true => exact h
  | false => exact h.one
theorem fin_tup (R : Rep X B E σ H r M O) {vs : List V} {ds : List D} (l : IsL X.K (Av B M O) H vs ds) (q : LE w p X B E σ r H M O Q (.tup ds) M) : Fz Q H vs := fun a o hd n =>
  q _ _ O (R.same (same_upd n)) (Rl.of_same (same_upd n)) (IsX.of (.tup (.inl ⟨R.m.fresh n, o, hd, upd_same⟩) (l.up (same_upd n))))
theorem fin_lst (R : Rep X B E σ H r M O) {vs : List V} {ds : List D} (l : IsL X.K (Av B M O) H vs ds) (q : LE w p X B E σ r H M O Q (.lst ds) M) : ∀ a, H a = none → Q (.ref a) (upd H a (.lst vs)) := fun a n =>
  q _ _ O (R.same (same_upd n)) (Rl.of_same (same_upd n)) (IsX.of (.lst ⟨R.m.fresh n, upd_same⟩ (l.up (same_upd n))))
theorem fin_v (R : Rep X B E σ H r M O) {v : V} {d : D} (l : Is X.K (Av B M O) H v d) (q : LE w p X B E σ r H M O Q d M) : Q v H := q v H O R Rl.refl (IsX.of l)
theorem LE.go {M' : Mem} {O' : Own} {d : D} {M2 : Mem} (l : Rl p M O H M' O' H') (q : LE w p X B E σ r H M O Q d M2) : LE w p X B E σ r H' M' O' Q d M2 := fun v H2 O2 R2 l2 i2 => q v H2 O2 R2 (l.trans l2) i2
theorem LT.go {M' : Mem} {O' : Own} {d : Bool} {M2 : Mem} {Q : Bool → Hp → Prop} (l : Rl p M O H M' O' H') (q : LT p X B E σ r H M O Q d M2) : LT p X B E σ r H' M' O' Q d M2 := fun H2 O2 R2 l2 => q H2 O2 R2 (l.trans l2)
end
abbrev GO := D → D → Mem → (D → Mem → Prop) → Prop
abbrev GU := D → Mem → (D → Mem → Prop) → Prop
/-- a two-place operation over data -/
structure OpD (X : Cx) (f : Value → Value → Sem Value) (go : GO) : Prop where
  ex : ∃ rr : R2, OpR X f rr ∧ ∀ B E σ H r M O x y d e Q, Rep X B E σ H r M O → Is1 X.K (Av B M O) H x d → Is1 X.K (Av B M O) H y e → go d e M (LE true true X B E σ r H M O Q) → rr x y H Q
  mono : ∀ d e M Q Q', (∀ d M', Q d M' → Q' d M') → go d e M Q → go d e M Q'
/-- .. a one-place one -/
structure UnD (X : Cx) (f : Value → Sem Value) (go : GU) : Prop where
  ex : ∃ rr : V → Hp → VK → Prop, UnR X f rr ∧ ∀ B E σ H r M O x d Q, Rep X B E σ H r M O → Is1 X.K (Av B M O) H x d → go d M (LE true true X B E σ r H M O Q) → rr x H Q
  mono : ∀ d M Q Q', (∀ d M', Q d M' → Q' d M') → go d M Q → go d M Q'
def g2 (go : GO) (ga gb : GE) : GE := fun r M Q => ga r M fun d M1 => gb r M1 fun e M2 => go d e M2 Q
def g1 (go : GU) (ga : GE) : GE := fun r M Q => ga r M fun d M1 => go d M1 Q
def gB (g : GE) : GT := fun r M Q => g r M fun d M' => match d with
  | .bl b => Q b M'
  | _ => False
section
variable {X : Cx} {w w1 w2 p : Bool} {a b c e : Expr} {g ga gb gc : GE} {B : Addr → Prop} {E : En} {σ : L2.St} {H : Hp} {r : Fr} {M : Mem} {O : Own} {pos : Pos} {go : GO} {gu : GU}
theorem g2_mono (ha : ∀ r M Q Q', (∀ d M', Q d M' → Q' d M') → ga r M Q → ga r M Q') (hb : ∀ r M Q Q', (∀ d M', Q d M' → Q' d M') → gb r M Q → gb r M Q') (ho : ∀ d e M Q Q', (∀ d M', Q d M' → Q' d M') → go d e M Q → go d e M Q') :
    ∀ r M Q Q', (∀ d M', Q d M' → Q' d M') → g2 go ga gb r M Q → g2 go ga gb r M Q' := fun r M Q Q' h q => ha r M _ _ (fun d M1 q1 => hb r M1 _ _ (fun e M2 q2 => ho d e M2 _ _ h q2) q1) q
theorem de_op {op : Operator} (ho : OpD X (binaryOp op) go) (ha : DE w1 p X a ga) (hb : DE w2 p X b gb) (hw : (w1 || p) = true := by first | rfl | exact Bool.or_true _) : DE true p X (.BinOp a op b pos) (g2 go ga gb) := by
  obtain ⟨⟨rr, h1, h2⟩, hm⟩ := ho
  refine ⟨peI (pe_op h1 ha.run hb.run) fun σ H Q ⟨B, E, r, M, O, R, q⟩ => ?_, g2_mono ha.mono hb.mono hm⟩
  refine ha.on R q fun d M1 v H1 O1 k1 R1 l1 i1 => ?_
  refine hb.on R1 k1 fun e M2 u H2 O2 k2 R2 l2 i2 => ?_
  exact h2 B E σ H2 r M2 O2 v u d e Q R2 (IsX.one (IsX.next hw l2 i1)) i2.one (hm _ _ _ _ _ (fun z M' q3 v3 H3 O3 R3 l3 i3 => q3 v3 H3 O3 R3 ((l1.trans l2).trans l3.weak) i3) k2)
theorem de_un {op : UnaryOp} (ho : UnD X (unaryOp op) gu) (ha : DE w p X a ga) : DE true p X (.UnaryOp op a pos) (g1 gu ga) := by
  obtain ⟨⟨rr, h1, h2⟩, hm⟩ := ho
  refine ⟨peI (pe_un h1 ha.run) fun σ H Q ⟨B, E, r, M, O, R, q⟩ => ?_, fun r M Q Q' h q => ha.mono r M _ _ (fun d M1 q1 => hm d M1 _ _ h q1) q⟩
  refine ha.on R q fun d M1 v H1 O1 k1 R1 l1 i1 => ?_
  exact h2 B E σ H1 r M1 O1 v d Q R1 i1.one (hm _ _ _ _ (fun z M' q3 v3 H3 O3 R3 l3 i3 => q3 v3 H3 O3 R3 (l1.trans l3.weak) i3) k1)
theorem de_cmp {op : CmpOp} (ho : OpD X (compareOp op) go) (ha : DE w1 p X a ga) (hb : DE w2 p X b gb) (hm : behindInMarks op b = false := by first | exact nomark _ | with_unfolding_all rfl) (hw : (w1 || p) = true := by first | rfl | exact Bool.or_true _) :
    DE true p X (.Compare a [op] [b] pos) (g2 go ga gb) := by
  obtain ⟨⟨rr, h1, h2⟩, hmo⟩ := ho
  refine ⟨peI (pe_cmpR h1 ha.run hb.run hm) fun σ H Q ⟨B, E, r, M, O, R, q⟩ => ?_, g2_mono ha.mono hb.mono hmo⟩
  refine ha.on R q fun d M1 v H1 O1 k1 R1 l1 i1 => ?_
  refine hb.on R1 k1 fun e M2 u H2 O2 k2 R2 l2 i2 => ?_
  exact h2 B E σ H2 r M2 O2 v u d e Q R2 (IsX.one (IsX.next hw l2 i1)) i2.one (hmo _ _ _ _ _ (fun z M' q3 v3 H3 O3 R3 l3 i3 => q3 v3 H3 O3 R3 ((l1.trans l2).trans l3.weak) i3) k2)
theorem gB_mono (h : ∀ r M Q Q', (∀ d M', Q d M' → Q' d M') → g r M Q → g r M Q') : ∀ r M Q Q', (∀ d M', Q d M' → Q' d M') → gB g r M Q → gB g r M Q' := fun r M Q Q' hh q => h r M _ _ (fun d M1 q1 => by
  cases d with
  | bl b => exact hh _ _ q1
  | _ => exact q1) q
theorem dt_cmp {op : CmpOp} (ho : OpD X (compareOp op) go) (ha : DE w1 p X a ga) (hb : DE w2 p X b gb) (hm : behindInMarks op b = false := by first | exact nomark _ | with_unfolding_all rfl) (hw : (w1 || p) = true := by first | rfl | exact Bool.or_true _) :
    DT p X (.Compare a [op] [b] pos) (gB (g2 go ga gb)) := by
  obtain ⟨⟨rr, h1, h2⟩, hmo⟩ := ho
  refine ⟨ptI (pt_cmpR h1 ha.run hb.run hm) fun σ H Q ⟨B, E, r, M, O, R, q⟩ => ?_, gB_mono (g2_mono ha.mono hb.mono hmo)⟩
  refine ha.on R q fun d M1 v H1 O1 k1 R1 l1 i1 => ?_
  refine hb.on R1 k1 fun e M2 u H2 O2 k2 R2 l2 i2 => ?_
  refine h2 B E σ H2 r M2 O2 v u d e _ R2 (IsX.one (IsX.next hw l2 i1)) i2.one (hmo _ _ _ _ _ (fun z M' q3 v3 H3 O3 R3 l3 i3 => ?_) k2)
  have i3 : Is X.K (Av B M' O3) H3 v3 z := i3
  cases z with
  | bl b =>
    cases i3
    exact ⟨b, rfl, q3 H3 O3 R3 ((l1.trans l2).trans l3.weak)⟩
  | _ => exact q3.elim
def gAnd (t u : GT) : GT := fun r M Q => t r M fun c M1 => if c = true then u r M1 Q else Q false M1
def gOr (t u : GT) : GT := fun r M Q => t r M fun c M1 => if c = true then Q true M1 else u r M1 Q
def gNot (t : GT) : GT := fun r M Q => t r M fun c M1 => Q (!c) M1
variable {tA tB' gt gu' : GT} {rest : List Expr}
structure DW (p : Bool) (X : Cx) (e : Expr) (g : GT) : Prop where
  run : PW X e (fun σ H Q => ∃ B E r M O, Rep X B E σ H r M O ∧ g r M (LT p X B E σ r H M O Q))
  mono : ∀ r M Q Q', (∀ d M', Q d M' → Q' d M') → g r M Q → g r M Q'
theorem DW.dt (h : DW p X e gt) : DT p X e gt := ⟨PW.pt h.run, h.mono⟩
theorem dw_and1 (ha : DT p X a tA) : DW p X (.BoolOp .And [a] pos) tA := ⟨pw_and1 ha.run, ha.mono⟩
theorem dw_or1 (ha : DT p X a tA) : DW p X (.BoolOp .Or [a] pos) tA := ⟨pw_or1 ha.run, ha.mono⟩
theorem DW.on (ha : DW p X e gt) (R : Rep X B E σ H r M O) {k : Bool → Mem → Prop} (h : gt r M k) {Q : Bool → Hp → Prop}
    (hk : ∀ d M1 H1 O1, k d M1 → Rep X B E σ H1 r M1 O1 → Rl p M O H M1 O1 H1 → Q d H1) :
    ∃ B E r M O, Rep X B E σ H r M O ∧ gt r M (LT p X B E σ r H M O Q) :=
  ⟨B, E, r, M, O, R, ha.mono r M _ _ (fun d M1 h1 H1 O1 R1 l1 => hk d M1 H1 O1 h1 R1 l1) h⟩
theorem dw_and (ha : DT p X a tA) (hb : DW p X (.BoolOp .And (b :: rest) pos) tB') : DW p X (.BoolOp .And (a :: b :: rest) pos) (gAnd tA tB') := by
  refine ⟨pwI (pw_and ha.run hb.run) fun σ H Q ⟨B, E, r, M, O, R, q⟩ => ?_, fun r M Q Q' h q => ha.mono r M _ _ (fun c M1 q1 => ?_) q⟩
  · refine ha.on R q fun c M1 H1 O1 k1 R1 l1 => ?_
    cases c with
    | true =>
      rw [if_pos rfl] at k1 ⊢
      exact hb.on R1 k1 fun d M2 H2 O2 k2 R2 l2 => k2 H2 O2 R2 (l1.trans l2)
    | false =>
      rw [if_neg Bool.false_ne_true] at k1 ⊢
      exact k1 H1 O1 R1 l1
  · cases c with
    | true =>
      rw [if_pos rfl] at q1 ⊢
      exact hb.mono r M1 _ _ h q1
    | false =>
      rw [if_neg Bool.false_ne_true] at q1 ⊢
      exact h _ _ q1
theorem dw_or (ha : DT p X a tA) (hb : DW p X (.BoolOp .Or (b :: rest) pos) tB') : DW p X (.BoolOp .Or (a :: b :: rest) pos) (gOr tA tB') := by
  refine ⟨pwI (pw_or ha.run hb.run) fun σ H Q ⟨B, E, r, M, O, R, q⟩ => ?_, fun r M Q Q' h q => ha.mono r M _ _ (fun c M1 q1 => ?_) q⟩
  · refine ha.on R q fun c M1 H1 O1 k1 R1 l1 => ?_
    cases c with
    | false =>
      rw [if_neg Bool.false_ne_true] at k1 ⊢
      exact hb.on R1 k1 fun d M2 H2 O2 k2 R2 l2 => k2 H2 O2 R2 (l1.trans l2)
    | true =>
      rw [if_pos rfl] at k1 ⊢
      exact k1 H1 O1 R1 l1
  · cases c with
    | false =>
      rw [if_neg Bool.false_ne_true] at q1 ⊢
      exact hb.mono r M1 _ _ h q1
    | true =>
      rw [if_pos rfl] at q1 ⊢
      exact h _ _ q1
theorem dt_not (ha : DT p X a tA) : DT p X (.UnaryOp .Not a pos) (gNot tA) := by
  refine ⟨ptI (pt_not ha.run) fun σ H Q ⟨B, E, r, M, O, R, q⟩ => ?_, fun r M Q Q' h q => ha.mono r M _ _ (fun c M1 q1 => h _ _ q1) q⟩
  exact ha.on R q fun c M1 H1 O1 k1 R1 l1 => k1 H1 O1 R1 l1
/-- .. as values -/
def gAndV (ga gb : GE) : GE := fun r M Q => ga r M fun d M1 => match d with
  | .bl true => gb r M1 Q
  | .bl false => Q (.bl false) M1
  | _ => False
def gOrV (ga gb : GE) : GE := fun r M Q => ga r M fun d M1 => match d with
  | .bl true => Q (.bl true) M1
  | .bl false => gb r M1 Q
  | _ => False
def gNotV (ga : GE) : GE := fun r M Q => ga r M fun d M1 => match d with
  | .bl c => Q (.bl (!c)) M1
  | _ => False
theorem de_one {op} (h : DE w p X a ga) : DE w p X (.BoolOp op [a] pos) ga := ⟨pe_one h.run, h.mono⟩
theorem de_and (ha : DE true p X a ga) (hb : DE true p X (.BoolOp .And (b :: rest) pos) gb) : DE true p X (.BoolOp .And (a :: b :: rest) pos) (gAndV ga gb) := by
  refine ⟨peI (pe_and ha.run hb.run) fun σ H Q ⟨B, E, r, M, O, R, q⟩ => ?_, fun r M Q Q' h q => ha.mono r M _ _ (fun d M1 q1 => ?_) q⟩
  · refine ha.on R q fun d M1 v H1 O1 k1 R1 l1 i1 => ?_
    have i1 : Is X.K (Av B M1 O1) H1 v d := i1
    split at k1
    · cases i1
      refine ⟨true, rfl, ?_⟩
      rw [if_pos rfl]
      exact hb.on R1 k1 fun d M2 u H2 O2 k2 R2 l2 i2 => k2 u H2 O2 R2 (l1.trans l2) i2
    · cases i1
      refine ⟨false, rfl, ?_⟩
      rw [if_neg Bool.false_ne_true]
      exact k1 _ H1 O1 R1 l1 (Is.bl _)
    · exact k1.elim
  · split at q1
    · exact hb.mono r M1 _ _ h q1
    · exact h _ _ q1
    · exact q1.elim
theorem de_or (ha : DE true p X a ga) (hb : DE true p X (.BoolOp .Or (b :: rest) pos) gb) : DE true p X (.BoolOp .Or (a :: b :: rest) pos) (gOrV ga gb) := by
  refine ⟨peI (pe_or ha.run hb.run) fun σ H Q ⟨B, E, r, M, O, R, q⟩ => ?_, fun r M Q Q' h q => ha.mono r M _ _ (fun d M1 q1 => ?_) q⟩
  · refine ha.on R q fun d M1 v H1 O1 k1 R1 l1 i1 => ?_
    have i1 : Is X.K (Av B M1 O1) H1 v d := i1
    split at k1
    · cases i1
      refine ⟨true, rfl, ?_⟩
      rw [if_pos rfl]
      exact k1 _ H1 O1 R1 l1 (Is.bl _)
    · cases i1
      refine ⟨false, rfl, ?_⟩
      rw [if_neg Bool.false_ne_true]
      exact hb.on R1 k1 fun d M2 u H2 O2 k2 R2 l2 i2 => k2 u H2 O2 R2 (l1.trans l2) i2
    · exact k1.elim
  · split at q1
    · exact h _ _ q1
    · exact hb.mono r M1 _ _ h q1
    · exact q1.elim
theorem de_not (ha : DE true p X a ga) : DE true p X (.UnaryOp .Not a pos) (gNotV ga) := by
  refine ⟨peI (pe_not ha.run) fun σ H Q ⟨B, E, r, M, O, R, q⟩ => ?_, fun r M Q Q' h q => ha.mono r M _ _ (fun d M1 q1 => ?_) q⟩
  · refine ha.on R q fun d M1 v H1 O1 k1 R1 l1 i1 => ?_
    have i1 : Is X.K (Av B M1 O1) H1 v d := i1
    cases d with
    | bl c =>
      cases i1
      exact ⟨c, rfl, k1 _ H1 O1 R1 l1 (Is.bl _)⟩
    | _ => exact k1.elim
  · cases d with
    | bl c => exact h _ _ q1
    | _ => exact q1.elim
def gIf (t : GT) (ga gb : GE) : GE := fun r M Q => t r M fun c M1 => if c = true then ga r M1 Q else gb r M1 Q
theorem de_if (hc : DT p X c gt) (ha : DE w p X a ga) (hb : DE w p X b gb) : DE w p X (.IfExp c a b pos) (gIf gt ga gb) := by
  refine ⟨peI (pe_ifExp hc.run ha.run hb.run) fun σ H Q ⟨B, E, r, M, O, R, q⟩ => ?_, fun r M Q Q' h q => hc.mono r M _ _ (fun c M1 q1 => ?_) q⟩
  · refine hc.on R q fun c M1 H1 O1 k1 R1 l1 => ?_
    cases c with
    | true =>
      rw [if_pos rfl] at k1 ⊢
      exact ha.on R1 k1 fun d M2 u H2 O2 k2 R2 l2 i2 => k2 u H2 O2 R2 (l1.trans l2) i2
    | false =>
      rw [if_neg Bool.false_ne_true] at k1 ⊢
      exact hb.on R1 k1 fun d M2 u H2 O2 k2 R2 l2 i2 => k2 u H2 O2 R2 (l1.trans l2) i2
  · cases c with
    | true =>
      rw [if_pos rfl] at q1 ⊢
      exact ha.mono r M1 _ _ h q1
    | false =>
      rw [if_neg Bool.false_ne_true] at q1 ⊢
      exact hb.mono r M1 _ _ h q1
end
def valD (kds : List (Key × D)) (k : Key) : Option D := (kds.find? fun kv => decide (kv.1 = k)).map (·.2)
def putD (kds : List (Key × D)) (k : Key) (d : D) : List (Key × D) :=
  if (kds.any fun kv => decide (kv.1 = k)) = true then kds.map (fun kv => if kv.1 = k then (kv.1, d) else kv) else kds ++ [(k, d)]
def mergeD (kds more : List (Key × D)) : List (Key × D) := more.foldl (fun acc kv => putD acc kv.1 kv.2) kds
def keyD : D → Option Key
  | .int i => some (.inl i)
  | .str x => some (.inr x)
  | _ => none
section
variable {K : PySem.W.Frag} {A : Addr → Prop} {H : Hp}
theorem IsK.val {k : Key} : ∀ {kvs : List (Key × V)} {kds : List (Key × D)}, IsK K A H kvs kds → (∀ d, valD kds k = some d → ∃ v, valV kvs k = some v ∧ Is K A H v d) ∧ (valD kds k = none → valV kvs k = none)
  | _, _, .nil => ⟨fun d e => (by simp [valD] at e), fun _ => rfl⟩
  | _, _, .cons (k := j) (v := v) (d := d) (vs := vs) (ds := ds) h t => by
    obtain ⟨h1, h2⟩ := IsK.val (k := k) t
    by_cases e : j = k
    · subst e
      have e1 : valD ((j, d) :: ds) j = some d := by simp [valD, List.find?_cons]
      have e2 : valV ((j, v) :: vs) j = some v := valV_pos rfl
      rw [e1, e2]
      exact ⟨fun d' q => by cases q; exact ⟨v, rfl, h⟩, fun q => by cases q⟩
    · have e1 : valD ((j, d) :: ds) k = valD ds k := by simp [valD, List.find?_cons, e]
      have e2 : valV ((j, v) :: vs) k = valV vs k := valV_neg e
      rw [e1, e2]
      exact ⟨h1, h2⟩
theorem IsK.any {k : Key} : ∀ {kvs : List (Key × V)} {kds : List (Key × D)}, IsK K A H kvs kds → (kvs.any fun kv => decide (kv.1 = k)) = kds.any fun kv => decide (kv.1 = k)
  | _, _, .nil => rfl
  | _, _, .cons h t => by rw [List.any_cons, List.any_cons, IsK.any t]
theorem IsK.map {k : Key} {v : V} {d : D} (hv : Is K A H v d) : ∀ {kvs : List (Key × V)} {kds : List (Key × D)}, IsK K A H kvs kds → IsK K A H (kvs.map fun kv => if kv.1 = k then (kv.1, v) else kv) (kds.map fun kv => if kv.1 = k then (kv.1, d) else kv)
  | _, _, .nil => .nil
  | _, _, .cons (k := j) h t => by
    rw [List.map_cons, List.map_cons]
    by_cases e : j = k
    · subst e
      rw [if_pos rfl, if_pos rfl]
      exact .cons hv (IsK.map hv t)
    · rw [if_neg e, if_neg e]
      exact .cons h (IsK.map hv t)
theorem IsK.append : ∀ {kvs : List (Key × V)} {kds : List (Key × D)} {kvs' : List (Key × V)} {kds' : List (Key × D)}, IsK K A H kvs kds → IsK K A H kvs' kds' → IsK K A H (kvs ++ kvs') (kds ++ kds')
  | _, _, _, _, .nil, h => h
  | _, _, _, _, .cons h t, q => .cons h (IsK.append t q)
theorem IsK.put {k : Key} {v : V} {d : D} (hv : Is K A H v d) {kvs : List (Key × V)} {kds : List (Key × D)} (h : IsK K A H kvs kds) : IsK K A H (putK kvs k v) (putD kds k d) := by
  unfold putK putD
  rw [h.any (k := k)]
  split
  · exact h.map hv
  · exact h.append (.cons hv .nil)
theorem IsK.merge {more : List (Key × V)} {mds : List (Key × D)} (q : IsK K A H more mds) : ∀ {kvs : List (Key × V)} {kds : List (Key × D)}, IsK K A H kvs kds → IsK K A H (mergeK kvs more) (mergeD kds mds) :=
  match q with
  | .nil => fun h => h
  | .cons q t => fun h => IsK.merge t (h.put q)
theorem IsK.len : ∀ {kvs : List (Key × V)} {kds : List (Key × D)}, IsK K A H kvs kds → kvs.length = kds.length
  | _, _, .nil => rfl
  | _, _, .cons h t => congrArg (· + 1) (IsK.len t)
theorem keyD_kV {v : V} {d : D} {k : Key} (e : keyD d = some k) (h : Is K A H v d) : v = kV k := by
  cases h <;> simp only [keyD, Option.some.injEq, reduceCtorEq] at e
  · subst e; rfl
  · subst e; rfl
end
def kD : Key → D
  | .inl i => .int i
  | .inr x => .str x
theorem kD_is {K : PySem.W.Frag} {A : Addr → Prop} {H : Hp} (k : Key) : Is K A H (kV k) (kD k) := by
  cases k with
  | inl i => exact .int i
  | inr x => exact .str x
theorem IsK.keys {K : PySem.W.Frag} {A : Addr → Prop} {H : Hp} : ∀ {kvs : List (Key × V)} {kds : List (Key × D)}, IsK K A H kvs kds → IsL K A H (kvs.map fun kv => kV kv.1) (kds.map fun kv => kD kv.1)
  | _, _, .nil => .nil
  | _, _, .cons _ t => .cons (kD_is _) (IsK.keys t)
theorem IsK.get {K : PySem.W.Frag} {A : Addr → Prop} {H : Hp} {kvs : List (Key × V)} {kds : List (Key × D)} (h : IsK K A H kvs kds) (k : Key) : (valV kvs k).isSome = (valD kds k).isSome := by
  obtain ⟨h1, h2⟩ := h.val (k := k)
  cases e : valD kds k with
  | none => rw [h2 e]; rfl
  | some d =>
    obtain ⟨v, e2, _⟩ := h1 d e
    rw [e2]; rfl
theorem is1_key {K : PySem.W.Frag} {A : Addr → Prop} {H : Hp} {v : V} {d : D} {k : Key} (e : keyD d = some k) (h : Is1 K A H v d) : v = kV k := by
  cases d <;> simp only [keyD, Option.some.injEq, reduceCtorEq] at e
  · subst e; cases h; rfl
  · subst e; cases h; rfl
end DL
set_option Elab.async false
set_option linter.all false
set_option maxRecDepth 100000
namespace DL
open PySem PySem.Spec PyProof.Rows L2
section
variable {K : PySem.W.Frag} {A : Addr → Prop} {H : Hp}
theorem is1_int {v : V} {i : Int} (h : Is1 K A H v (.int i)) : v = .int i := by
  have h : Is K A H v (.int i) := h
  cases h; rfl
theorem is1_bl {v : V} {i : Bool} (h : Is1 K A H v (.bl i)) : v = .bl i := by
  have h : Is K A H v (.bl i) := h
  cases h; rfl
theorem is1_str {v : V} {i : Str} (h : Is1 K A H v (.str i)) : v = .str i := by
  have h : Is K A H v (.str i) := h
  cases h; rfl
theorem is1_non {v : V} (h : Is1 K A H v .non) : v = .non := by
  have h : Is K A H v .non := h
  cases h; rfl
theorem is1_ref {v : V} {a : Addr} (h : Is1 K A H v (.ref a)) : v = .ref a := by
  have h : Is K A H v (.ref a) := h
  cases h; rfl
theorem Is1.dp : ∀ {v : V} {d : D}, Is1 K A H v d → d.pl = true → Dp K H v d.py
  | _, .non, h, e => Is.dp h e
  | _, .bl _, h, e => Is.dp h e
  | _, .int _, h, e => Is.dp h e
  | _, .str _, h, e => Is.dp h e
  | _, .ty _, h, e => by simp [D.pl] at e
  | _, .ref _, h, e => by simp [D.pl] at e
  | _, .tup _, ⟨a, vs, h1, h2, h3⟩, e => by
    subst h1
    exact .tup h2 (IsL.dp h3 (by simpa [D.pl] using e))
  | _, .lst _, ⟨a, vs, h1, h2, h3⟩, e => by
    subst h1
    exact .lst (SqL.of h2) (IsL.dp h3 (by simpa [D.pl] using e))
  | _, .dic _, h, e => by simp [D.pl] at e
end
/-- data of which == may be asked -/
def D.ok (d : D) : Bool := d.pl && SeqAt.shaped d.py
def D.eqv (d e : D) : Bool := PyData.eqv d.py e.py
/-- an operation on two ints alone -/
def goI (C : Int → Int → Prop) (f : Int → Int → D) : GO := fun d e M Q => match d, e with
  | .int i, .int j => C i j ∧ Q (f i j) M
  | _, _ => False
theorem goI_mono {C : Int → Int → Prop} {f : Int → Int → D} : ∀ d e M Q Q', (∀ d M', Q d M' → Q' d M') → goI C f d e M Q → goI C f d e M Q' := fun d e M Q Q' h q => by
  unfold goI at q ⊢
  split at q
  · exact ⟨q.1, h _ _ q.2⟩
  · exact q.elim
section
variable {X : Cx}
theorem opd_I {f : Value → Value → Sem Value} {C : Int → Int → Prop} {g : Int → Int → V} {g' : Int → Int → D} (h : OpR X f (rI C g)) (hg : ∀ A H i j, Is X.K A H (g i j) (g' i j)) : OpD X f (goI C g') where
  ex := ⟨_, h, fun B E σ H r M O x y d e Q R i1 i2 q => by
    unfold goI at q
    split at q
    · rename_i i j
      rw [is1_int i1, is1_int i2]
      exact ⟨i, j, rfl, rfl, q.1, fin_v R (hg _ _ _ _) q.2⟩
    · exact q.elim⟩
  mono := goI_mono
theorem rI_of0 {f : Value → Value → Sem Value} {g : Int → Int → V} (h : OpR X f (rI0 g)) : OpR X f (rI (fun _ _ => True) g) := by
  intro pins s σ H x y v u Q I rx ry ⟨i, j, e1, e2, _, q⟩
  exact h pins s σ H x y v u Q I rx ry ⟨i, j, e1, e2, q⟩
theorem od_sub : OpD X (binaryOp .Sub) (goI (fun _ _ => True) fun i j => .int (i - j)) := opd_I (rI_of0 op_sub) fun _ _ _ _ => .int _
theorem od_mod : OpD X (binaryOp .Mod) (goI (fun _ j => 0 < j) fun i j => .int (i % j)) := opd_I op_mod fun _ _ _ _ => .int _
theorem od_fdiv : OpD X (binaryOp .FloorDiv) (goI CDivW fun i j => .int (i / j)) := opd_I op_fdivW fun _ _ _ _ => .int _
theorem od_pow : OpD X (binaryOp .Pow) (goI CPow fun i j => .int (i ^ j.toNat)) := opd_I op_pow fun _ _ _ _ => .int _
theorem od_mulI : OpD X (binaryOp .Mult) (goI CMul fun i j => .int (i * j)) := opd_I op_mul fun _ _ _ _ => .int _
theorem od_le : OpD X (compareOp .LtE) (goI (fun _ _ => True) fun i j => .bl (decide (i ≤ j))) := opd_I (rI_of0 op_le) fun _ _ _ _ => .bl _
theorem od_gt : OpD X (compareOp .Gt) (goI (fun _ _ => True) fun i j => .bl (decide (j < i))) := opd_I (rI_of0 op_gt) fun _ _ _ _ => .bl _
theorem od_ge : OpD X (compareOp .GtE) (goI (fun _ _ => True) fun i j => .bl (decide (j ≤ i))) := opd_I (rI_of0 op_ge) fun _ _ _ _ => .bl _
def guI (f : Int → D) : GU := fun d M Q => match d with
  | .int i => Q (f i) M
  | _ => False
theorem ud_neg : UnD X (unaryOp .USub) (guI fun i => .int (-i)) where
  ex := ⟨_, un_neg, fun B E σ H r M O x d Q R i1 q => by
    unfold guI at q
    split at q
    · rename_i i
      rw [is1_int i1]
      exact ⟨i, rfl, fin_v R (.int _) q⟩
    · exact q.elim⟩
  mono := fun d M Q Q' h q => by
    unfold guI at q ⊢
    split at q
    · exact h _ _ q
    · exact q.elim
/-- + -/
def goAdd : GO := fun d e M Q => match d, e with
  | .int i, .int j => Q (.int (i + j)) M
  | .str x, .str y => x.length + y.length ≤ sizeLine ∧ Q (.str (x ++ y)) M
  | .tup xs, .tup ys => xs.length + ys.length ≤ sizeLine ∧ Q (.tup (xs ++ ys)) M
  | .lst xs, .lst ys => xs.length + ys.length ≤ sizeLine ∧ Q (.lst (xs ++ ys)) M
  | _, _ => False
end
end DL
namespace DL
open PySem PySem.Spec PyProof.Rows L2
section
variable {X : Cx}
theorem fin_cat {B : Addr → Prop} {E : En} {σ : L2.St} {H : Hp} {r : Fr} {M : Mem} {O : Own} {Q : VK} {a b : Addr} {vs ws : List V} {xs ys : List D} (R : Rep X B E σ H r M O) (s1 : SqT X.K H a vs) (s2 : SqT X.K H b ws)
    (t1 : vs = [] → Is X.K (Av B M O) H (.ref b) (.tup ys)) (t2 : ws = [] → Is X.K (Av B M O) H (.ref a) (.tup xs)) (l1 : IsL X.K (Av B M O) H vs xs) (l2 : IsL X.K (Av B M O) H ws ys) (hz : xs.length + ys.length ≤ sizeLine)
    (q : LE true true X B E σ r H M O Q (.tup (xs ++ ys)) M) : rCatF X.K (.ref a) (.ref b) H Q := by
  refine ⟨a, b, vs, ws, rfl, rfl, s1, s2, by rw [l1.length, l2.length]; exact hz, fun e => ?_, fun e1 e2 => ?_, fun _ _ => ?_⟩
  · have e' : xs = [] := by
      subst e
      cases l1
      rfl
    subst e'
    exact fin_v R (t1 e) q
  · have e' : ys = [] := by
      subst e2
      cases l2
      rfl
    subst e'
    rw [List.append_nil] at q
    exact fin_v R (t2 e2) q
  · exact fin_tup R (l1.append l2) q
/-- + of strong operands (a tuple plus nothing is the tuple itself) -/
theorem od_addT {B : Addr → Prop} {E : En} {σ : L2.St} {H : Hp} {r : Fr} {M : Mem} {O : Own} {x y : V} {d e : D} {Q : VK} (R : Rep X B E σ H r M O) (i1 : Is X.K (Av B M O) H x d) (i2 : Is X.K (Av B M O) H y e)
    (q : goAdd d e M (LE true true X B E σ r H M O Q)) : (rI0 (fun i j => V.int (i + j)) x y H Q) ∨ (∃ i j, x = .str i ∧ y = .str j ∧ i.length + j.length ≤ sizeLine ∧ Q (.str (i ++ j)) H) ∨ rCatF X.K x y H Q ∨ rCat x y H Q := by
  unfold goAdd at q
  split at q
  · cases i1; cases i2
    exact .inl ⟨_, _, rfl, rfl, fin_v R (.int _) q⟩
  · cases i1; cases i2
    exact .inr (.inl ⟨_, _, rfl, rfl, q.1, fin_v R (.str _) q.2⟩)
  · cases i1 with
    | tup h1 l1 =>
      cases i2 with
      | tup h2 l2 => exact .inr (.inr (.inl (fin_cat R h1.sq h2.sq (fun _ => .tup h2 l2) (fun _ => .tup h1 l1) l1 l2 q.1 q.2)))
  · cases i1 with
    | lst h1 l1 =>
      cases i2 with
      | lst h2 l2 => exact .inr (.inr (.inr ⟨_, _, _, _, rfl, rfl, h1.2, h2.2, by rw [l1.length, l2.length]; exact q.1, fin_lst R (l1.append l2) q.2⟩))
  · exact q.elim
theorem goAdd_mono : ∀ d e M Q Q', (∀ d M', Q d M' → Q' d M') → goAdd d e M Q → goAdd d e M Q' := fun d e M Q Q' h q => by
  unfold goAdd at q ⊢
  split at q
  · exact h _ _ q
  · exact ⟨q.1, h _ _ q.2⟩
  · exact ⟨q.1, h _ _ q.2⟩
  · exact ⟨q.1, h _ _ q.2⟩
  · exact q.elim
theorem op_addAll : OpR X (binaryOp .Add) (fun x y H Q => (rI0 (fun i j => V.int (i + j)) x y H Q) ∨ (∃ i j, x = .str i ∧ y = .str j ∧ i.length + j.length ≤ sizeLine ∧ Q (.str (i ++ j)) H) ∨ rCatF X.K x y H Q ∨ rCat x y H Q) :=
  op_add.or (op_add_str.or (op_catF.or op_cat))
variable {w1 w2 p : Bool} {a b : Expr} {ga gb : GE} {pos : Pos}
/-- a + b, both kept apart -/
theorem de_add (ha : DE true p X a ga) (hb : DE true p X b gb) : DE true p X (.BinOp a .Add b pos) (g2 goAdd ga gb) := by
  refine ⟨peI (pe_op op_addAll ha.run hb.run) fun σ H Q ⟨B, E, r, M, O, R, q⟩ => ?_, g2_mono ha.mono hb.mono goAdd_mono⟩
  refine ha.on R q fun d M1 v H1 O1 k1 R1 l1 i1 => ?_
  refine hb.on R1 k1 fun e M2 u H2 O2 k2 R2 l2 i2 => ?_
  exact od_addT R2 (IsX.next (w := true) rfl l2 i1) i2 (goAdd_mono _ _ _ _ _ (fun z M' q3 v3 H3 O3 R3 l3 i3 => q3 v3 H3 O3 R3 ((l1.trans l2).trans l3.weak) i3) k2)
/-- a + b of lists and numbers, lent ones too -/
def goAddW : GO := fun d e M Q => match d, e with
  | .int i, .int j => Q (.int (i + j)) M
  | .lst xs, .lst ys => xs.length + ys.length ≤ sizeLine ∧ Q (.lst (xs ++ ys)) M
  | _, _ => False
theorem ok_and {d : D} (h : d.ok = true) : d.pl = true ∧ SeqAt.shaped d.py = true := Bool.and_eq_true_iff.mp h
/-- flat things -/
def D.flat : D → Bool
  | .non | .bl _ | .int _ | .str _ => true
  | _ => false
theorem flat_V {K : PySem.W.Frag} {A : Addr → Prop} {H : Hp} {v : V} {d : D} (i : Is1 K A H v d) (h : d.flat = true) : flatV v = true := by
  cases d with
  | non => rw [is1_non i]; rfl
  | bl b => rw [is1_bl i]; rfl
  | int b => rw [is1_int i]; rfl
  | str b => rw [is1_str i]; rfl
  | _ => exact absurd (show false = true from h) Bool.false_ne_true
theorem eqV_eqv {K : PySem.W.Frag} {A : Addr → Prop} {H : Hp} {v u : V} {d e : D} (i : Is1 K A H v d) (j : Is1 K A H u e) (h : d.flat = true) (h' : e.flat = true) : eqV v u = d.eqv e := by
  unfold D.eqv
  cases d with
  | non =>
    rw [is1_non i]
    cases e with
    | non => rw [is1_non j]; simp [eqV, D.py, PyData.eqv]
    | bl b => rw [is1_bl j]; simp [eqV, D.py, PyData.eqv]
    | int b => rw [is1_int j]; simp [eqV, D.py, PyData.eqv]
    | str b => rw [is1_str j]; simp [eqV, D.py, PyData.eqv]
    | _ => exact absurd (show false = true from h') Bool.false_ne_true
  | bl c =>
    rw [is1_bl i]
    cases e with
    | non => rw [is1_non j]; simp [eqV, D.py, PyData.eqv]
    | bl b => rw [is1_bl j]; simp [eqV, D.py, PyData.eqv]
    | int b => rw [is1_int j]; simp [eqV, D.py, PyData.eqv]
    | str b => rw [is1_str j]; simp [eqV, D.py, PyData.eqv]
    | _ => exact absurd (show false = true from h') Bool.false_ne_true
  | int c =>
    rw [is1_int i]
    cases e with
    | non => rw [is1_non j]; simp [eqV, D.py, PyData.eqv]
    | bl b => rw [is1_bl j]; simp [eqV, D.py, PyData.eqv]
    | int b => rw [is1_int j]; simp [eqV, D.py, PyData.eqv]
    | str b => rw [is1_str j]; simp [eqV, D.py, PyData.eqv]
    | _ => exact absurd (show false = true from h') Bool.false_ne_true
  | str c =>
    rw [is1_str i]
    cases e with
    | non => rw [is1_non j]; simp [eqV, D.py, PyData.eqv]
    | bl b => rw [is1_bl j]; simp [eqV, D.py, PyData.eqv]
    | int b => rw [is1_int j]; simp [eqV, D.py, PyData.eqv]
    | str b => rw [is1_str j]; simp [eqV, D.py, PyData.eqv]
    | _ => exact absurd (show false = true from h') Bool.false_ne_true
  | _ => exact absurd (show false = true from h) Bool.false_ne_true
theorem flats_V {K : PySem.W.Frag} {A : Addr → Prop} {H : Hp} : ∀ {vs : List V} {ds : List D}, IsL K A H vs ds → ds.all D.flat = true → vs.all flatV = true
  | _, _, .nil, _ => rfl
  | _, _, .cons i l, h => by
    rw [List.all_cons, Bool.and_eq_true] at h ⊢
    exact ⟨flat_V i.one h.1, flats_V l h.2⟩
theorem inV_any {K : PySem.W.Frag} {A : Addr → Prop} {H : Hp} {v : V} {d : D} (i : Is1 K A H v d) (h : d.flat = true) : ∀ {vs : List V} {ds : List D}, IsL K A H vs ds → ds.all D.flat = true → inV v vs = ds.any fun z => z.eqv d
  | _, _, .nil, _ => rfl
  | _, _, .cons j l, hh => by
    rw [List.all_cons, Bool.and_eq_true] at hh
    have t := inV_any i h l hh.2
    unfold inV at t ⊢
    rw [List.any_cons, List.any_cons, t, eqV_eqv j.one i hh.1 h]
def goIn (neg : Bool) : GO := fun d e M Q => match e with
  | .tup ds => (d.flat = true ∧ ds.all D.flat = true) ∧ Q (.bl (xor neg (ds.any fun z => z.eqv d))) M
  | .lst ds => (d.ok = true ∧ D.ok (.lst ds) = true) ∧ Q (.bl (xor neg (ds.any fun z => z.eqv d))) M
  | .dic kds => ∃ k, keyD d = some k ∧ Q (.bl (xor neg (valD kds k).isSome)) M
  | _ => False
/-- k in d, a dict -/
def rInK (neg : Bool) : R2 := fun x y H Q => ∃ a o, y = V.ref a ∧ DGet H a x o ∧ Q (.bl (xor neg o.isSome)) H
theorem op_inK {X : Cx} (hu : X.A.units + 1 < cLine) : OpR X (compareOp .In) (rInK false) := by
  intro pins s σ H x y v u Q I rx ry h
  obtain ⟨a, o, rfl, g, q⟩ := h
  cases ry
  rw [Bool.false_xor] at q
  exact d_in hu I g rx fun s' I' => ⟨.bl o.isSome, H, I', rfl, q⟩
theorem rInK_of {K : PySem.W.Frag} {A : Addr → Prop} {H : Hp} {neg : Bool} {x y : V} {d : D} {kds : List (Key × D)} {k : Key} {Q : VK} (i1 : Is1 K A H x d) (i2 : Is1 K A H y (.dic kds)) (e : keyD d = some k) (q : Q (.bl (xor neg (valD kds k).isSome)) H) : rInK neg x y H Q := by
  obtain ⟨a, kvs, rfl, h2, l2⟩ := i2
  have := is1_key e i1
  subst this
  exact ⟨a, valV kvs k, rfl, .inl ⟨kvs, k, h2, rfl, rfl⟩, by rw [l2.get k]; exact q⟩
theorem goIn_mono {neg : Bool} : ∀ d e M Q Q', (∀ d M', Q d M' → Q' d M') → goIn neg d e M Q → goIn neg d e M Q' := fun d e M Q Q' h q => by
  unfold goIn at q ⊢
  split at q
  · exact ⟨q.1, h _ _ q.2⟩
  · exact ⟨q.1, h _ _ q.2⟩
  · obtain ⟨k, e, q⟩ := q
    exact ⟨k, e, h _ _ q⟩
  · exact q.elim
theorem any_py (d : D) : ∀ ds : List D, ((D.pyL ds).any fun z => PyData.eqv z d.py) = ds.any fun z => z.eqv d
  | [] => rfl
  | e :: r => by
    rw [List.any_cons, ← any_py d r]
    simp only [D.pyL, List.any_cons, D.eqv]
theorem od_in (hu : X.A.units + 65 < cLine) : OpD X (compareOp .In) (goIn false) where
  ex := ⟨_, (op_in_seq.or (op_inD hu)).or (op_inK (by omega)), fun B E σ H r M O x y d e Q R i1 i2 q => by
    unfold goIn at q
    split at q
    · obtain ⟨a, vs, e2, h2, l2⟩ := i2
      refine .inl (.inl ⟨a, vs, e2, .inr h2, flat_V i1 q.1.1, flats_V l2 q.1.2, ?_⟩)
      have q2 := q.2
      rw [← inV_any i1 q.1.1 l2 q.1.2, Bool.false_xor] at q2
      exact fin_v R (.bl _) q2
    · rename_i ds
      refine .inl (.inr ⟨d.py, D.pyL ds, i1.dp (ok_and q.1.1).1, i2.dp (ok_and q.1.2).1, (ok_and q.1.1).2, (ok_and q.1.2).2, ?_⟩)
      have q2 := q.2
      rw [← any_py, Bool.false_xor] at q2
      exact fin_v R (.bl _) q2
    · obtain ⟨k, e, q⟩ := q
      exact .inr (rInK_of i1 i2 e (fin_v R (.bl _) q))
    · exact q.elim⟩
  mono := goIn_mono
/-- is None, is not None -/
def D.isN : D → Bool
  | .non => true
  | _ => false
def goIsN (neg : Bool) : GO := fun d e M Q => match e with
  | .non => Q (.bl (xor neg d.isN)) M
  | _ => False
theorem isN_dec {K : PySem.W.Frag} {A : Addr → Prop} {H : Hp} {v : V} {d : D} (i : Is1 K A H v d) : decide (v = .non) = d.isN := by
  cases d with
  | non => rw [is1_non i]; rfl
  | bl b => rw [is1_bl i]; rfl
  | int b => rw [is1_int i]; rfl
  | str b => rw [is1_str i]; rfl
  | ty b =>
    have i : Is K A H v (.ty b) := i
    cases i; rfl
  | ref b => rw [is1_ref i]; rfl
  | tup b => obtain ⟨_, _, rfl, _⟩ := i; rfl
  | lst b => obtain ⟨_, _, rfl, _⟩ := i; rfl
  | dic b => obtain ⟨_, _, rfl, _⟩ := i; rfl
theorem goIsN_mono {neg : Bool} : ∀ d e M Q Q', (∀ d M', Q d M' → Q' d M') → goIsN neg d e M Q → goIsN neg d e M Q' := fun d e M Q Q' h q => by
  unfold goIsN at q ⊢
  split at q
  · exact h _ _ q
  · exact q.elim
theorem od_isN : OpD X (compareOp .Is) (goIsN false) where
  ex := ⟨_, op_isN, fun B E σ H r M O x y d e Q R i1 i2 q => by
    unfold goIsN at q
    split at q
    · refine ⟨is1_non i2, ?_⟩
      rw [Bool.false_xor, ← isN_dec i1] at q
      exact fin_v R (.bl _) q
    · exact q.elim⟩
  mono := goIsN_mono
end
end DL
set_option Elab.async false
set_option linter.all false
set_option maxRecDepth 100000
namespace DL
open PySem PySem.Spec PyProof.Rows L2
abbrev GA := Fr → Mem → (List D → Mem → Prop) → Prop
def IsXL (w : Bool) (K : PySem.W.Frag) (A : Addr → Prop) (H : Hp) : List V → List D → Prop
  | [], [] => True
  | v :: vs, d :: ds => IsX w K A H v d ∧ IsXL w K A H vs ds
  | _, _ => False
theorem isXL_strong {K : PySem.W.Frag} {A : Addr → Prop} {H : Hp} : ∀ {vs : List V} {ds : List D}, IsXL true K A H vs ds → IsL K A H vs ds
  | [], [], _ => .nil
  | v :: vs, d :: ds, ⟨h, t⟩ => .cons h (isXL_strong t)
  | [], _ :: _, h => h.elim
  | _ :: _, [], h => h.elim
def LA (w p : Bool) (X : Cx) (B : Addr → Prop) (E : En) (σ : L2.St) (r : Fr) (H : Hp) (M : Mem) (O : Own) (Q : List V → Hp → Prop) : List D → Mem → Prop := fun ds M' =>
  ∀ vs H' O', Rep X B E σ H' r M' O' → Rl p M O H M' O' H' → IsXL w X.K (Av B M' O') H' vs ds → Q vs H'
structure DA (w p : Bool) (X : Cx) (es : List Expr) (g : GA) : Prop where
  run : PA X es (fun σ H Q => ∃ B E r M O, Rep X B E σ H r M O ∧ g r M (LA w p X B E σ r H M O Q))
  mono : ∀ r M Q Q', (∀ d M', Q d M' → Q' d M') → g r M Q → g r M Q'
theorem paI {X : Cx} {es : List Expr} {t t' : TA} (h : PA X es t) (i : ∀ σ H Q, t' σ H Q → t σ H Q) : PA X es t' := ⟨fun pos pins s σ H Q I q => h.run pos pins s σ H Q I (i σ H Q q)⟩
def gNil : GA := fun _ M Q => Q [] M
def gCons (ge : GE) (ga : GA) : GA := fun r M Q => ge r M fun d M1 => ga r M1 fun ds M2 => Q (d :: ds) M2
section
variable {X : Cx} {w w1 w2 p : Bool} {a b c e : Expr} {es : List Expr} {g ga gb gc : GE} {gs : GA} {B : Addr → Prop} {E : En} {σ : L2.St} {H : Hp} {r : Fr} {M : Mem} {O : Own} {pos : Pos}
theorem da_nil : DA w p X [] gNil := ⟨paI pa_nil fun σ H Q ⟨B, E, r, M, O, R, q⟩ => q [] H O R Rl.refl trivial, fun r M Q Q' h q => h _ _ q⟩
theorem DA.on (ha : DA w p X es gs) (R : Rep X B E σ H r M O) {k : List D → Mem → Prop} (h : gs r M k) {Q : List V → Hp → Prop}
    (hk : ∀ d M1 v H1 O1, k d M1 → Rep X B E σ H1 r M1 O1 → Rl p M O H M1 O1 H1 → IsXL w X.K (Av B M1 O1) H1 v d → Q v H1) :
    ∃ B E r M O, Rep X B E σ H r M O ∧ gs r M (LA w p X B E σ r H M O Q) :=
  ⟨B, E, r, M, O, R, ha.mono r M _ _ (fun d M1 h1 v H1 O1 R1 l1 i1 => hk d M1 v H1 O1 h1 R1 l1 i1) h⟩
theorem da_cons (ha : DE w p X e g) (hr : DA w p X es gs) (hw : (w || p) = true := by first | rfl | exact Bool.or_true _) (hs : starEach (e :: es) X.env = (false, eval e X.env) :: starEach es X.env := by rfl) : DA w p X (e :: es) (gCons g gs) := by
  refine ⟨paI (pa_cons ha.run hr.run hs) fun σ H Q ⟨B, E, r, M, O, R, q⟩ => ?_, fun r M Q Q' h q => ha.mono r M _ _ (fun d M1 q1 => hr.mono r M1 _ _ (fun ds M2 q2 => h _ _ q2) q1) q⟩
  refine ha.on R q fun d M1 v H1 O1 k1 R1 l1 i1 => ?_
  refine hr.on R1 k1 fun ds M2 vs H2 O2 k2 R2 l2 i2 => ?_
  exact k2 (v :: vs) H2 O2 R2 (l1.trans l2) ⟨IsX.next hw l2 i1, i2⟩
/-- the last argument, whatever it does -/
theorem da_one (ha : DE w p X e g) (hs : starEach [e] X.env = (false, eval e X.env) :: starEach [] X.env := by rfl) : DA w p X [e] (gCons g gNil) := by
  refine ⟨paI (pa_cons ha.run pa_nil hs) fun σ H Q ⟨B, E, r, M, O, R, q⟩ => ?_, fun r M Q Q' h q => ha.mono r M _ _ (fun d M1 q1 => h _ _ q1) q⟩
  exact ha.on R q fun d M1 v H1 O1 k1 R1 l1 i1 => k1 [v] H1 O1 R1 l1 ⟨i1, trivial⟩
def gTup (gs : GA) : GE := fun r M Q => gs r M fun ds M1 => Q (.tup ds) M1
def gLst (gs : GA) : GE := fun r M Q => gs r M fun ds M1 => Q (.lst ds) M1
theorem de_tup {x1} (hs : DA true p X es gs) (hz : ∀ r M Q, gs r M Q → gs r M fun ds M1 => ds.length ≤ sizeLine ∧ Q ds M1) : DE true p X (.Tuple es x1 pos) (gTup gs) := by
  refine ⟨peI (pe_tupF hs.run) fun σ H Q ⟨B, E, r, M, O, R, q⟩ => ?_, fun r M Q Q' h q => hs.mono r M _ _ (fun ds M1 q1 => h _ _ q1) q⟩
  refine hs.on R (hz _ _ _ q) fun ds M1 vs H1 O1 k1 R1 l1 i1 => ?_
  have i2 := isXL_strong i1
  exact ⟨by rw [i2.length]; exact k1.1, fin_tup R1 i2 (LE.go l1 k1.2)⟩
theorem de_lst (hs : DA true p X es gs) (hz : ∀ r M Q, gs r M Q → gs r M fun ds M1 => ds.length ≤ sizeLine ∧ Q ds M1) : DE true p X (.List es pos) (gLst gs) := by
  refine ⟨peI (pe_lst hs.run) fun σ H Q ⟨B, E, r, M, O, R, q⟩ => ?_, fun r M Q Q' h q => hs.mono r M _ _ (fun ds M1 q1 => h _ _ q1) q⟩
  refine hs.on R (hz _ _ _ q) fun ds M1 vs H1 O1 k1 R1 l1 i1 => ?_
  have i2 := isXL_strong i1
  exact ⟨by rw [i2.length]; exact k1.1, fin_lst R1 i2 (LE.go l1 k1.2)⟩
/-- how long a written list is -/
structure LenOf (n : Nat) (gs : GA) : Prop where
  h : ∀ r M Q, gs r M Q → gs r M fun ds M1 => ds.length = n ∧ Q ds M1
theorem len_nil : LenOf 0 gNil := ⟨fun r M Q q => ⟨rfl, q⟩⟩
theorem len_cons {n : Nat} (hm : ∀ r M Q Q', (∀ d M', Q d M' → Q' d M') → g r M Q → g r M Q') (hs : LenOf n gs) (hsm : ∀ r M Q Q', (∀ d M', Q d M' → Q' d M') → gs r M Q → gs r M Q') : LenOf (n + 1) (gCons g gs) :=
  ⟨fun r M Q q => hm r M _ _ (fun d M1 q1 => hsm r M1 _ _ (fun ds M2 q2 => ⟨congrArg (· + 1) q2.1, q2.2⟩) (hs.h _ _ _ q1)) q⟩
/-- an argument list with its length -/
structure DAn (w p : Bool) (X : Cx) (n : Nat) (es : List Expr) (gs : GA) : Prop where
  da : DA w p X es gs
  len : LenOf n gs
theorem an_nil : DAn w p X 0 [] gNil := ⟨da_nil, len_nil⟩
theorem an_cons {n : Nat} (ha : DE w p X e g) (hr : DAn w p X n es gs) (hw : (w || p) = true := by first | rfl | exact Bool.or_true _) (hs : starEach (e :: es) X.env = (false, eval e X.env) :: starEach es X.env := by rfl) : DAn w p X (n + 1) (e :: es) (gCons g gs) :=
  ⟨da_cons ha hr.da hw hs, len_cons ha.mono hr.len hr.da.mono⟩
theorem DAn.z {n : Nat} (h : DAn w p X n es gs) (hn : n ≤ sizeLine) : ∀ r M Q, gs r M Q → gs r M fun ds M1 => ds.length ≤ sizeLine ∧ Q ds M1 := fun r M Q q =>
  h.da.mono r M _ _ (fun ds M1 q1 => ⟨by rw [q1.1]; exact hn, q1.2⟩) (h.len.h _ _ _ q)
theorem de_tupN {x1} {n : Nat} (hs : DAn true p X n es gs) (hn : n ≤ sizeLine := by decide) : DE true p X (.Tuple es x1 pos) (gTup gs) := de_tup hs.da (hs.z hn)
theorem de_lstN {n : Nat} (hs : DAn true p X n es gs) (hn : n ≤ sizeLine := by decide) : DE true p X (.List es pos) (gLst gs) := de_lst hs.da (hs.z hn)
abbrev GC := List D → Mem → (D → Mem → Prop) → Prop
structure CaD (X : Cx) (f : Value) (gc : GC) : Prop where
  ex : ∃ rr : List V → Hp → VK → Prop, CallR X f rr ∧ ∀ B E σ H r M O xs ds Q, Rep X B E σ H r M O → IsXL false X.K (Av B M O) H xs ds → gc ds M (LE true true X B E σ r H M O Q) → rr xs H Q
  mono : ∀ d M Q Q', (∀ d M', Q d M' → Q' d M') → gc d M Q → gc d M Q'
theorem isXL_weak {w : Bool} {K : PySem.W.Frag} {A : Addr → Prop} {H : Hp} : ∀ {vs : List V} {ds : List D}, IsXL w K A H vs ds → IsXL false K A H vs ds
  | [], [], _ => trivial
  | v :: vs, d :: ds, ⟨h, t⟩ => ⟨h.one, isXL_weak t⟩
  | [], _ :: _, h => h.elim
  | _ :: _, [], h => h.elim
def gCa (gc : GC) (gs : GA) : GE := fun r M Q => gs r M fun ds M1 => gc ds M1 Q
variable {gcl : GC} {x : Str} {id T : String} {pf : Pos}
theorem de_callB (hc : CaD X (.builtin id) gcl) (hg : Gl X x) (hm : X.mg x = none) (hv : bootBuiltins x = some (.builtin id)) (ha : DA w p X (e :: es) gs) (hn : x ≠ "__name__" := by decide) (hdb : (x == ("__debug__" : Str)) = false := by decide)
    (he : starEach (e :: es) X.env = (false, eval e X.env) :: starEach es X.env := by rfl) (hpl : (backTo pos (starEach es X.env)).any (·.1) = false := by rfl) : DE true p X (.Call (.Name x pf) (e :: es) [] pos) (gCa gcl gs) := by
  obtain ⟨⟨rr, h1, h2⟩, hmo⟩ := hc
  refine ⟨peI (pe_callB h1 hg hm hv ha.run hn hdb he hpl) fun σ H Q ⟨B, E, r, M, O, R, q⟩ => ?_, fun r M Q Q' h q => ha.mono r M _ _ (fun ds M1 q1 => hmo _ _ _ _ h q1) q⟩
  refine ha.on R q fun ds M1 vs H1 O1 k1 R1 l1 i1 => ?_
  exact h2 B E σ H1 r M1 O1 vs ds Q R1 (isXL_weak i1) (hmo _ _ _ _ (fun z M' q3 v3 H3 O3 R3 l3 i3 => q3 v3 H3 O3 R3 (l1.trans l3.weak) i3) k1)
theorem de_callTy (hc : CaD X (.type T) gcl) (hg : Gl X x) (hm : X.mg x = none) (hv : bootBuiltins x = some (.type T)) (ha : DA w p X (e :: es) gs) (hn : x ≠ "__name__" := by decide) (hdb : (x == ("__debug__" : Str)) = false := by decide)
    (he : starEach (e :: es) X.env = (false, eval e X.env) :: starEach es X.env := by rfl) (hpl : (backTo pos (starEach es X.env)).any (·.1) = false := by rfl) : DE true p X (.Call (.Name x pf) (e :: es) [] pos) (gCa gcl gs) := by
  obtain ⟨⟨rr, h1, h2⟩, hmo⟩ := hc
  refine ⟨peI (pe_callTy h1 hg hm hv ha.run hn hdb he hpl) fun σ H Q ⟨B, E, r, M, O, R, q⟩ => ?_, fun r M Q Q' h q => ha.mono r M _ _ (fun ds M1 q1 => hmo _ _ _ _ h q1) q⟩
  refine ha.on R q fun ds M1 vs H1 O1 k1 R1 l1 i1 => ?_
  exact h2 B E σ H1 r M1 O1 vs ds Q R1 (isXL_weak i1) (hmo _ _ _ _ (fun z M' q3 v3 H3 O3 R3 l3 i3 => q3 v3 H3 O3 R3 (l1.trans l3.weak) i3) k1)
/-- a built-in class as a value -/
theorem de_ty {T : String} (hg : Gl X x) (hm : X.mg x = none) (hv : bootBuiltins x = some (.type T)) (hn : x ≠ "__name__" := by decide) (hdb : (x == ("__debug__" : Str)) = false := by decide) : DE true p X (.Name x pos) (gC (.ty T)) :=
  ⟨peI (pe_bltn hg hm hv (v := .ty T) rfl hn hdb) fun σ H Q ⟨B, E, r, M, O, R, q⟩ => q _ H O R Rl.refl (.ty T), fun _ _ _ _ h q => h _ _ q⟩
theorem isXL1 {K : PySem.W.Frag} {A : Addr → Prop} {H : Hp} {vs : List V} {d : D} (h : IsXL false K A H vs [d]) : ∃ v, vs = [v] ∧ Is1 K A H v d := by
  match vs, h with
  | [v], ⟨i, _⟩ => exact ⟨v, rfl, i⟩
theorem isXL2 {K : PySem.W.Frag} {A : Addr → Prop} {H : Hp} {vs : List V} {d e : D} (h : IsXL false K A H vs [d, e]) : ∃ v u, vs = [v, u] ∧ Is1 K A H v d ∧ Is1 K A H u e := by
  match vs, h with
  | [v, u], ⟨i, j, _⟩ => exact ⟨v, u, rfl, i, j⟩
/-- len -/
def gcLen : GC := fun ds M Q => match ds with
  | [.lst xs] => Q (.int xs.length) M
  | [.tup xs] => Q (.int xs.length) M
  | [.str x] => x.length ≤ sizeLine ∧ Q (.int x.length) M
  | [.dic kds] => Q (.int kds.length) M
  | _ => False
theorem call_lenK : CallR X (.builtin "len") (fun xs H Q => ∃ a kvs, xs = [V.ref a] ∧ Rd H a (.dK kvs) ∧ Q (.int kvs.length) H) := by
  intro pins s σ H xs us Q I r h
  obtain ⟨a, kvs, rfl, ha, q⟩ := h
  obtain ⟨u, rfl, ru⟩ := vals1 r
  cases ru
  exact d_len I ha fun t s' I' => ⟨.int kvs.length, H, I', ⟨t, rfl⟩, q⟩
theorem ca_len : CaD X (.builtin "len") gcLen where
  ex := ⟨_, call_len.or call_lenK, fun B E σ H r M O xs ds Q R ii q => by
    unfold gcLen at q
    split at q
    · obtain ⟨v, rfl, a, vs, rfl, h1, l1⟩ := isXL1 ii
      exact .inl ⟨.ref a, _, rfl, .inl ⟨vs, SqL.of h1, rfl⟩, by rw [l1.length]; exact fin_v R (.int _) q⟩
    · obtain ⟨v, rfl, a, vs, rfl, h1, l1⟩ := isXL1 ii
      exact .inl ⟨.ref a, _, rfl, .inr ⟨vs, h1, rfl⟩, by rw [l1.length]; exact fin_v R (.int _) q⟩
    · obtain ⟨v, rfl, i⟩ := isXL1 ii
      rw [is1_str i]
      exact .inl ⟨_, _, rfl, ⟨q.1, rfl⟩, fin_v R (.int _) q.2⟩
    · obtain ⟨v, rfl, a, vs, rfl, h1, l1⟩ := isXL1 ii
      exact .inr ⟨a, vs, rfl, h1, by rw [l1.len]; exact fin_v R (.int _) q⟩
    · exact q.elim⟩
  mono := fun d M Q Q' h q => by
    unfold gcLen at q ⊢
    split at q
    · exact h _ _ q
    · exact h _ _ q
    · exact ⟨q.1, h _ _ q.2⟩
    · exact h _ _ q
    · exact q.elim
/-- abs -/
def gcI1 (f : Int → D) : GC := fun ds M Q => match ds with
  | [.int i] => Q (f i) M
  | _ => False
theorem gcI1_mono {f : Int → D} : ∀ d M Q Q', (∀ d M', Q d M' → Q' d M') → gcI1 f d M Q → gcI1 f d M Q' := fun d M Q Q' h q => by
  unfold gcI1 at q ⊢
  split at q
  · exact h _ _ q
  · exact q.elim
theorem ca_abs : CaD X (.builtin "abs") (gcI1 fun i => .int (if i < 0 then -i else i)) where
  ex := ⟨_, call_abs, fun B E σ H r M O xs ds Q R ii q => by
    unfold gcI1 at q
    split at q
    · obtain ⟨v, rfl, i⟩ := isXL1 ii
      rw [is1_int i]
      exact ⟨_, rfl, fin_v R (.int _) q⟩
    · exact q.elim⟩
  mono := gcI1_mono
/-- int(n), int(flag) -/
def gcInt : GC := fun ds M Q => match ds with
  | [.int i] => Q (.int i) M
  | [.bl b] => Q (.int (if b then 1 else 0)) M
  | _ => False
theorem ca_int : CaD X (.type "int") gcInt where
  ex := ⟨_, call_int1, fun B E σ H r M O xs ds Q R ii q => by
    unfold gcInt at q
    split at q
    · obtain ⟨v, rfl, i⟩ := isXL1 ii
      rw [is1_int i]
      exact .inl ⟨_, rfl, fin_v R (.int _) q⟩
    · obtain ⟨v, rfl, i⟩ := isXL1 ii
      rw [is1_bl i]
      exact .inr ⟨_, rfl, fin_v R (.int _) q⟩
    · exact q.elim⟩
  mono := fun d M Q Q' h q => by
    unfold gcInt at q ⊢
    split at q
    · exact h _ _ q
    · exact h _ _ q
    · exact q.elim
/-- tuple(xs), list(xs) -/
def gcTuple : GC := fun ds M Q => match ds with
  | [.lst xs] => Q (.tup xs) M
  | _ => False
def gcList : GC := fun ds M Q => match ds with
  | [.lst xs] => Q (.lst xs) M
  | [.tup xs] => Q (.lst xs) M
  | _ => False
theorem ca_tuple : CaD X (.type "tuple") gcTuple where
  ex := ⟨_, call_tuple_ofF, fun B E σ H r M O xs ds Q R ii q => by
    unfold gcTuple at q
    split at q
    · obtain ⟨v, rfl, a, vs, rfl, h1, l1⟩ := isXL1 ii
      exact ⟨a, vs, rfl, .inl ⟨SqL.of h1, fin_tup R l1 q⟩⟩
    · exact q.elim⟩
  mono := fun d M Q Q' h q => by
    unfold gcTuple at q ⊢
    split at q
    · exact h _ _ q
    · exact q.elim
/-- tuple(t) of a tuple that is kept apart: itself -/
def gcTupleS : GC := fun ds M Q => match ds with
  | [.lst xs] => Q (.tup xs) M
  | [.tup xs] => Q (.tup xs) M
  | _ => False
theorem de_tupleS (hg : Gl X "tuple") (hm : X.mg "tuple" = none) (ha : DA true p X [e] gs) (he : starEach [e] X.env = (false, eval e X.env) :: starEach [] X.env := by rfl) (hpl : (backTo pos (starEach [] X.env)).any (·.1) = false := by rfl) : DE true p X (.Call (.Name "tuple" pf) [e] [] pos) (gCa gcTupleS gs) := by
  refine ⟨peI (pe_callTy call_tuple_ofF hg hm (by decide +kernel) ha.run (by decide) (by decide) he hpl) fun σ H Q ⟨B, E, r, M, O, R, q⟩ => ?_, fun r M Q Q' h q => ha.mono r M _ _ (fun ds M1 q1 => ?_) q⟩
  · refine ha.on R q fun ds M1 vs H1 O1 k1 R1 l1 i1 => ?_
    have i2 := isXL_strong i1
    unfold gcTupleS at k1
    split at k1
    · cases i2 with
      | cons i t =>
        cases t
        cases i with
        | lst h l => exact ⟨_, _, rfl, .inl ⟨SqL.of h.2, fin_tup R1 l (LE.go l1 k1)⟩⟩
    · cases i2 with
      | cons i t =>
        cases t
        cases i with
        | tup h l => exact ⟨_, _, rfl, .inr ⟨h.sq, fin_v R1 (.tup h l) (LE.go l1 k1)⟩⟩
    · exact k1.elim
  · unfold gcTupleS at q1 ⊢
    split at q1
    · exact h _ _ q1
    · exact h _ _ q1
    · exact q1.elim
/-- all, any of truths -/
def blsOf : List D → Option (List Bool)
  | [] => some []
  | .bl b :: r => (blsOf r).map (b :: ·)
  | _ => none
def intsOf : List D → Option (List Int)
  | [] => some []
  | .int b :: r => (intsOf r).map (b :: ·)
  | _ => none
theorem blsOf_map : ∀ bs : List Bool, blsOf (bs.map D.bl) = some bs
  | [] => rfl
  | b :: r => by simp [blsOf, blsOf_map r]
theorem intsOf_map : ∀ bs : List Int, intsOf (bs.map D.int) = some bs
  | [] => rfl
  | b :: r => by simp [intsOf, intsOf_map r]
theorem of_blsOf {K : PySem.W.Frag} {A : Addr → Prop} {H : Hp} : ∀ {vs : List V} {ds : List D} {bs : List Bool}, IsL K A H vs ds → blsOf ds = some bs → vs = bs.map V.bl
  | _, _, _, .nil, h => by
    cases h; rfl
  | _, d :: r, bs, .cons i l, h => by
    cases d with
    | bl b =>
      cases i
      simp only [blsOf, Option.map_eq_some_iff] at h
      obtain ⟨cs, h1, h2⟩ := h
      subst h2
      rw [of_blsOf l h1]; rfl
    | _ => simp [blsOf] at h
theorem of_intsOf {K : PySem.W.Frag} {A : Addr → Prop} {H : Hp} : ∀ {vs : List V} {ds : List D} {bs : List Int}, IsL K A H vs ds → intsOf ds = some bs → vs = bs.map V.int
  | _, _, _, .nil, h => by
    cases h; rfl
  | _, d :: r, bs, .cons i l, h => by
    cases d with
    | int b =>
      cases i
      simp only [intsOf, Option.map_eq_some_iff] at h
      obtain ⟨cs, h1, h2⟩ := h
      subst h2
      rw [of_intsOf l h1]; rfl
    | _ => simp [intsOf] at h
def gcBls (f : List Bool → Bool) : GC := fun ds M Q => match ds with
  | [.lst xs] => ∃ bs, blsOf xs = some bs ∧ Q (.bl (f bs)) M
  | _ => False
theorem gcBls_mono {f : List Bool → Bool} : ∀ d M Q Q', (∀ d M', Q d M' → Q' d M') → gcBls f d M Q → gcBls f d M Q' := fun d M Q Q' h q => by
  unfold gcBls at q ⊢
  split at q
  · obtain ⟨bs, e, q⟩ := q
    exact ⟨bs, e, h _ _ q⟩
  · exact q.elim
theorem ca_all (hc : CallR X (.builtin "all") (rAll X.K)) : CaD X (.builtin "all") (gcBls fun bs => bs.all _root_.id) where
  ex := ⟨_, hc, fun B E σ H r M O xs ds Q R ii q => by
    unfold gcBls at q
    split at q
    · obtain ⟨v, rfl, a, vs, rfl, h1, l1⟩ := isXL1 ii
      obtain ⟨bs, e, q⟩ := q
      rw [of_blsOf l1 e] at h1
      exact ⟨a, bs, rfl, SqL.of h1, fin_v R (.bl _) q⟩
    · exact q.elim⟩
  mono := gcBls_mono
/-- sum, min, max of a list of ints -/
def gcSum : GC := fun ds M Q => match ds with
  | [.lst xs] => ∃ ns, intsOf xs = some ns ∧ Q (.int ns.sum) M
  | _ => False
/-- isinstance of data and a built-in class -/
def D.tyN : D → Option String
  | .non => some "NoneType"
  | .bl _ => some "bool"
  | .int _ => some "int"
  | .str _ => some "str"
  | .tup _ => some "tuple"
  | .lst _ => some "list"
  | .dic _ => some "dict"
  | _ => none
def isTy (t : String) (c : String) : Bool := t == c || (t == "bool" && c == "int")
def gcIsi : GC := fun ds M Q => match ds with
  | [d, .ty c] => ["int", "bool", "str", "tuple", "list", "dict"].contains c = true ∧ ∃ t, d.tyN = some t ∧ Q (.bl (isTy t c)) M
  | _ => False
theorem kit_tbl : ∀ t ∈ ["NoneType", "bool", "int", "str", "tuple", "list", "dict"], ∀ c ∈ ["int", "bool", "str", "tuple", "list", "dict"], kitB t c = some (isTy t c) := by decide +kernel
theorem tyX_of {K : PySem.W.Frag} {A : Addr → Prop} {H : Hp} {v : V} {t : String} : ∀ {d : D}, Is1 K A H v d → d.tyN = some t → TyX K H v (.type t) ∧ t ∈ ["NoneType", "bool", "int", "str", "tuple", "list", "dict"]
  | .non, i, e => by cases e; rw [is1_non i]; exact ⟨.base .non, by decide⟩
  | .bl _, i, e => by cases e; rw [is1_bl i]; exact ⟨.base (.bl _), by decide⟩
  | .int _, i, e => by cases e; rw [is1_int i]; exact ⟨.base (.int _), by decide⟩
  | .str _, i, e => by cases e; rw [is1_str i]; exact ⟨.base (.str _), by decide⟩
  | .ty _, i, e => by cases e
  | .ref _, i, e => by cases e
  | .lst _, ⟨a, vs, h1, h2, h3⟩, e => by cases e; rw [h1]; exact ⟨.base (.lst h2), by decide⟩
  | .dic _, ⟨a, vs, h1, h2, h3⟩, e => by
    cases e; rw [h1]
    rcases h2 with h2 | ⟨o, h2⟩
    · exact ⟨.base (.dK h2), by decide⟩
    · exact ⟨.fDict h2, by decide⟩
  | .tup _, ⟨a, vs, h1, h2, h3⟩, e => by
    cases e; rw [h1]
    refine ⟨?_, by decide⟩
    rcases h2.sq with (h2 | ⟨o, h2⟩) | ⟨o, its, n, hk, hc, _⟩
    · exact .base (.tup h2)
    · exact .fTuple h2
    · exact .kTuple hk hc
theorem ca_isi : CaD X (.builtin "isinstance") gcIsi where
  ex := ⟨_, call_isi, fun B E σ H r M O xs ds Q R ii q => by
    unfold gcIsi at q
    split at q
    · rename_i d c
      obtain ⟨v, u, rfl, i, j⟩ := isXL2 ii
      have j : Is X.K (Av B M O) H u (.ty c) := j
      cases j
      obtain ⟨hc, t, ht, q⟩ := q
      obtain ⟨hx, hm⟩ := tyX_of i ht
      exact ⟨v, .ty c, _, _, _, rfl, .ty c, hx, kit_ty (kit_tbl t hm c (by simpa using hc)), fin_v R (.bl _) q⟩
    · exact q.elim⟩
  mono := fun d M Q Q' h q => by
    unfold gcIsi at q ⊢
    split at q
    · obtain ⟨hc, t, ht, q⟩ := q
      exact ⟨hc, t, ht, h _ _ q⟩
    · exact q.elim
end
end DL
set_option Elab.async false
set_option linter.all false
set_option maxRecDepth 100000
namespace DL
open PySem PySem.Spec PyProof.Rows L2
section
variable {X : Cx} {w w1 w2 w3 p : Bool} {a b c e : Expr} {es : List Expr} {g ga gb gc : GE} {gs : GA} {B : Addr → Prop} {E : En} {σ : L2.St} {H : Hp} {r : Fr} {M : Mem} {O : Own} {pos : Pos}
theorem IsL.at {K : PySem.W.Frag} {A : Addr → Prop} {vs : List V} {ds : List D} {i : Int} {z : D} (l : IsL K A H vs ds) (h : atI ds i = some z) : ∃ v, atI vs i = some v ∧ Is K A H v z := by
  unfold atI at h ⊢
  rw [l.length]
  cases q : ixN ds.length i with
  | none => rw [q] at h; cases h
  | some j =>
    rw [q] at h
    exact l.get (show ds[j]? = some z from h)
/-- d[k], a dict -/
def dgetK (kds : List (Key × D)) (e : D) (M : Mem) (Q : D → Mem → Prop) : Prop := ∃ k v, keyD e = some k ∧ valD kds k = some v ∧ Q v M
def rIxK : R2 := fun x y H Q => ∃ a v, x = V.ref a ∧ DGet H a y (some v) ∧ Q v H
theorem ix_dict (hu : X.A.units + 1 < cLine) : IxR X rIxK := by
  intro value slice pins s σ H x y v u Q I rx ry h hs
  obtain ⟨a, z, rfl, g, q⟩ := h
  cases rx
  exact tail_any (dict_typeIs I g) PySem.F.slot_dict_getitem.lookup (d_getItem hu I g ry fun w' s3 I3 rw' => ⟨z, H, I3, rw', q⟩) hs
def goIx : GO := fun d e M Q => match d, e with
  | .lst xs, .int i => match atI xs i with
    | some z => Q z M
    | none => False
  | .tup xs, .int i => match atI xs i with
    | some z => Q z M
    | none => False
  | .str x, .int i => x.length ≤ sizeLine ∧ match atI x.cps.toList i with
    | some c => Q (.str ⟨#[c]⟩) M
    | none => False
  | .dic kds, e => dgetK kds e M Q
  | _, _ => False
theorem goIx_mono : ∀ d e M Q Q', (∀ d M', Q d M' → Q' d M') → goIx d e M Q → goIx d e M Q' := fun d e M Q Q' h q => by
  unfold goIx at q ⊢
  split at q
  · split at q
    · exact h _ _ q
    · exact q.elim
  · split at q
    · exact h _ _ q
    · exact q.elim
  · refine ⟨q.1, ?_⟩
    have q2 := q.2
    split at q2
    · exact h _ _ q2
    · exact q2.elim
  · obtain ⟨k, v, e1, e2, q⟩ := q
    exact ⟨k, v, e1, e2, h _ _ q⟩
  · exact q.elim
theorem de_ix (hu : X.A.units + 1 < cLine) (ha : DE w1 p X a ga) (hb : DE w2 p X b gb) (hs : PlainIx b := by intro _ _; rfl) (hw : (w1 || p) = true := by first | rfl | exact Bool.or_true _) : DE true p X (.Subscript a b pos) (g2 goIx ga gb) := by
  refine ⟨peI (pe_ix (ix_seq.or (ix_dict hu)) ha.run hb.run hs) fun σ H Q ⟨B, E, r, M, O, R, q⟩ => ?_, g2_mono ha.mono hb.mono goIx_mono⟩
  refine ha.on R q fun d M1 v H1 O1 k1 R1 l1 i1 => ?_
  refine hb.on R1 k1 fun e M2 u H2 O2 k2 R2 l2 i2 => ?_
  have j1 := IsX.one (IsX.next hw l2 i1)
  have j2 := i2.one
  have fin : ∀ {z v}, LE true p X B E σ r H M O Q z M2 → Is X.K (Av B M2 O2) H2 v z → Q v H2 := fun {z v} q3 i3 => q3 v H2 O2 R2 (l1.trans l2) i3
  unfold goIx at k2
  split at k2
  · obtain ⟨a, vs, rfl, h1, l1'⟩ := j1
    rw [is1_int j2]
    split at k2
    · rename_i z hz
      obtain ⟨x, hx, ix⟩ := l1'.at hz
      exact .inl (.inl ⟨a, vs, _, x, rfl, rfl, SqL.of h1, hx, fin k2 ix⟩)
    · exact k2.elim
  · obtain ⟨a, vs, rfl, h1, l1'⟩ := j1
    rw [is1_int j2]
    split at k2
    · rename_i z hz
      obtain ⟨x, hx, ix⟩ := l1'.at hz
      exact .inl (.inr (.inl ⟨a, vs, _, x, rfl, rfl, h1, hx, fin k2 ix⟩))
    · exact k2.elim
  · rw [is1_str j1, is1_int j2]
    obtain ⟨hl, k2⟩ := k2
    split at k2
    · rename_i z hz
      exact .inl (.inr (.inr ⟨_, _, _, rfl, rfl, hl, hz, fin k2 (.str _)⟩))
    · exact k2.elim
  · obtain ⟨a, vs, rfl, h1, l1'⟩ := j1
    obtain ⟨k, z, e1, e2, k2⟩ := k2
    have := is1_key e1 j2
    subst this
    obtain ⟨x, f1, f2⟩ := (l1'.val (k := k)).1 z e2
    exact .inr ⟨a, x, rfl, .inl ⟨vs, k, h1, rfl, f1.symm⟩, fin k2 f2⟩
  · exact k2.elim
abbrev GO' := Fr → Mem → (Option Int → Mem → Prop) → Prop
structure DO (p : Bool) (X : Cx) (e : Option Expr) (g : GO') : Prop where
  run : PO X e (fun σ H Q => ∃ B E r M O, Rep X B E σ H r M O ∧ g r M (fun o M' => ∀ H' O', Rep X B E σ H' r M' O' → Rl p M O H M' O' H' → Q o H'))
  mono : ∀ r M Q Q', (∀ d M', Q d M' → Q' d M') → g r M Q → g r M Q'
theorem poI {X : Cx} {e : Option Expr} {t t' : TO} (h : PO X e t) (i : ∀ σ H Q, t' σ H Q → t σ H Q) : PO X e t' := ⟨fun pins s σ H Q I q => h.run pins s σ H Q I (i σ H Q q)⟩
def gNoP : GO' := fun _ M Q => Q none M
def gPart (g : GE) : GO' := fun r M Q => g r M fun d M1 => match d with
  | .int i => Q (some i) M1
  | _ => False
theorem do_none : DO p X none gNoP := ⟨poI po_none fun σ H Q ⟨B, E, r, M, O, R, q⟩ => q H O R Rl.refl, fun _ _ _ _ h q => h _ _ q⟩
theorem do_some (ha : DE w p X a ga) : DO p X (some a) (gPart ga) := by
  refine ⟨poI (po_some ha.run) fun σ H Q ⟨B, E, r, M, O, R, q⟩ => ?_, fun r M Q Q' h q => ha.mono r M _ _ (fun d M1 q1 => ?_) q⟩
  · refine ha.on R q fun d M1 v H1 O1 k1 R1 l1 i1 => ?_
    split at k1
    · exact ⟨_, is1_int i1.one, k1 H1 O1 R1 l1⟩
    · exact k1.elim
  · split at q1
    · exact h _ _ q1
    · exact q1.elim
theorem DO.on {o : Option Expr} {gO : GO'} (ha : DO p X o gO) (R : Rep X B E σ H r M O) {k : Option Int → Mem → Prop} (h : gO r M k) {Q : Option Int → Hp → Prop}
    (hk : ∀ d M1 H1 O1, k d M1 → Rep X B E σ H1 r M1 O1 → Rl p M O H M1 O1 H1 → Q d H1) :
    ∃ B E r M O, Rep X B E σ H r M O ∧ gO r M (fun o M' => ∀ H' O', Rep X B E σ H' r M' O' → Rl p M O H M' O' H' → Q o H') :=
  ⟨B, E, r, M, O, R, ha.mono r M _ _ (fun d M1 h1 H1 O1 R1 l1 => hk d M1 H1 O1 h1 R1 l1) h⟩
def cutD (xs : List D) (lo hi : Option Int) : List D := (xs.drop (HT.sIx xs.length 0 lo)).take (HT.sIx xs.length xs.length hi - HT.sIx xs.length 0 lo)
theorem IsL.cut {K : PySem.W.Frag} {A : Addr → Prop} {vs : List V} {ds : List D} (lo hi : Option Int) (l : IsL K A H vs ds) : IsL K A H (cutV vs lo hi) (cutD ds lo hi) := by
  unfold cutV cutD
  rw [l.length]
  exact (l.drop _).take _
/-- of lists and texts, lent ones too; of tuples that are kept apart -/
def gsSl (w : Bool) (ga : GE) (gl gh : GO') : GE := fun r M Q => ga r M fun d M1 => gl r M1 fun lo M2 => gh r M2 fun hi M3 => match d with
  | .lst xs => Q (.lst (cutD xs lo hi)) M3
  | .tup xs => w = true ∧ Q (.tup (cutD xs lo hi)) M3
  | .str x => x.length ≤ sizeLine ∧ Q (.str (cutS x lo hi)) M3
  | _ => False
theorem sIx_all (xs : List V) (lo hi : Option Int) (h : HT.sIx xs.length 0 lo = 0 ∧ HT.sIx xs.length xs.length hi = xs.length) : cutV xs lo hi = xs := by
  unfold cutV
  rw [h.1, h.2, List.drop_zero, Nat.sub_zero, List.take_length]
theorem de_sl {lo hi : Option Expr} {gl gh : GO'} {p2 : Pos} (ha : DE w p X a ga) (hl : DO p X lo gl) (hh : DO p X hi gh) (hw : (w || p) = true := by first | rfl | exact Bool.or_true _) :
    DE true p X (.Subscript a (.Slice lo hi none p2) pos) (gsSl w ga gl gh) := by
  refine ⟨peI (pe_slice (sl_list.or (sl_tupF.or sl_str)) ha.run hl.run hh.run) fun σ H Q ⟨B, E, r, M, O, R, q⟩ => ?_,
    fun r M Q Q' h q => ha.mono r M _ _ (fun d M1 q1 => hl.mono r M1 _ _ (fun lo M2 q2 => hh.mono r M2 _ _ (fun hi M3 q3 => ?_) q2) q1) q⟩
  · refine ha.on R q fun d M1 v H1 O1 k1 R1 l1 i1 => ?_
    refine hl.on R1 k1 fun lo M2 H2 O2 k2 R2 l2 => ?_
    refine hh.on R2 k2 fun hi M3 H3 O3 k3 R3 l3 => ?_
    have lz := (l1.trans l2).trans l3
    have j := IsX.next hw l3 (IsX.next hw l2 i1)
    split at k3
    · obtain ⟨a, vs, rfl, h1, l1'⟩ := j.one
      exact .inl ⟨a, vs, rfl, SqL.of h1, fin_lst R3 (l1'.cut _ _) (LE.go lz k3)⟩
    · rename_i xs
      obtain ⟨rfl, k3⟩ := k3
      have j : Is X.K (Av B M3 O3) H3 v (.tup xs) := j
      cases j with
      | @tup a vs _ h l =>
        refine .inr (.inl ⟨a, vs, rfl, h.sq, fun hz => ?_, fun _ => fin_tup R3 (l.cut _ _) (LE.go lz k3)⟩)
        have e := sIx_all vs _ _ hz
        have l2' := l.cut lo hi
        rw [e] at l2'
        exact fin_v R3 (.tup h l2') (LE.go lz k3)
    · rw [is1_str j.one]
      exact .inr (.inr ⟨_, rfl, k3.1, fin_v R3 (.str _) (LE.go lz k3.2)⟩)
    · exact k3.elim
  · split at q3
    · exact h _ _ q3
    · exact ⟨q3.1, h _ _ q3.2⟩
    · exact ⟨q3.1, h _ _ q3.2⟩
    · exact q3.elim
variable {go go' : GO}
def gCh (go go' : GO) (ga gb gc : GE) : GE := fun r M Q => ga r M fun d M1 => gb r M1 fun e M2 => go d e M2 fun z M3 => match z with
  | .bl true => gc r M3 fun f M4 => go' e f M4 Q
  | .bl false => Q (.bl false) M3
  | _ => False
theorem gCh_mono (ha : ∀ r M Q Q', (∀ d M', Q d M' → Q' d M') → ga r M Q → ga r M Q') (hb : ∀ r M Q Q', (∀ d M', Q d M' → Q' d M') → gb r M Q → gb r M Q') (hc : ∀ r M Q Q', (∀ d M', Q d M' → Q' d M') → gc r M Q → gc r M Q')
    (ho : ∀ d e M Q Q', (∀ d M', Q d M' → Q' d M') → go d e M Q → go d e M Q') (ho' : ∀ d e M Q Q', (∀ d M', Q d M' → Q' d M') → go' d e M Q → go' d e M Q') :
    ∀ r M Q Q', (∀ d M', Q d M' → Q' d M') → gCh go go' ga gb gc r M Q → gCh go go' ga gb gc r M Q' := fun r M Q Q' h q =>
  ha r M _ _ (fun d M1 q1 => hb r M1 _ _ (fun e M2 q2 => ho d e M2 _ _ (fun z M3 q3 => by
    split at q3
    · exact hc r M3 _ _ (fun f M4 q4 => ho' e f M4 _ _ h q4) q3
    · exact h _ _ q3
    · exact q3.elim) q2) q1) q
theorem de_chain {op op' : CmpOp} (ho : OpD X (compareOp op) go) (ho' : OpD X (compareOp op') go') (ha : DE true p X a ga) (hb : DE true p X b gb) (hc : DE w p X c gc) (hm : lastMarks [op, op'] [b, c] = false := by with_unfolding_all rfl) :
    DE true p X (.Compare a [op, op'] [b, c] pos) (gCh go go' ga gb gc) := by
  obtain ⟨⟨rr, h1, h2⟩, hmo⟩ := ho
  obtain ⟨⟨rr', h1', h2'⟩, hmo'⟩ := ho'
  refine ⟨peI (pe_chain h1 h1' ha.run hb.run hc.run hm) fun σ H Q ⟨B, E, r, M, O, R, q⟩ => ?_, gCh_mono ha.mono hb.mono hc.mono hmo hmo'⟩
  refine ha.on R q fun d M1 v H1 O1 k1 R1 l1 i1 => ?_
  refine hb.on R1 k1 fun e M2 u H2 O2 k2 R2 l2 i2 => ?_
  refine h2 B E σ H2 r M2 O2 v u d e _ R2 (IsX.one (IsX.next rfl l2 i1)) i2.one (hmo _ _ _ _ _ (fun z M3 q3 v3 H3 O3 R3 l3 i3 => ?_) k2)
  have i3 : Is X.K (Av B M3 O3) H3 v3 z := i3
  split at q3
  · cases i3
    refine ⟨true, rfl, ?_⟩
    rw [if_pos rfl]
    refine hc.on R3 q3 fun f M4 t H4 O4 k4 R4 l4 i4 => ?_
    exact h2' B E σ H4 r M4 O4 u t e f Q R4 (IsX.one (IsX.next (w := true) (p := p) rfl (l3.weak.trans l4) i2)) i4.one (hmo' _ _ _ _ _ (fun z' M5 q5 v5 H5 O5 R5 l5 i5 => q5 v5 H5 O5 R5 ((((l1.trans l2).trans l3.weak).trans l4).trans l5.weak) i5) k4)
  · cases i3
    refine ⟨false, rfl, ?_⟩
    rw [if_neg Bool.false_ne_true]
    exact q3 _ H3 O3 R3 ((l1.trans l2).trans l3.weak) (Is.bl _)
  · exact q3.elim
def gTru (ga : GE) : GT := fun r M Q => ga r M fun d M1 => match d with
  | .non => Q false M1
  | .bl b => Q b M1
  | .int i => Q (i != 0) M1
  | .str x => x.length ≤ sizeLine ∧ Q ((x.length : Int) != 0) M1
  | .lst xs => Q (!xs.isEmpty) M1
  | .tup xs => Q (!xs.isEmpty) M1
  | .dic xs => Q (!xs.isEmpty) M1
  | _ => False
theorem IsL.empty {K : PySem.W.Frag} {A : Addr → Prop} {vs : List V} {ds : List D} (l : IsL K A H vs ds) : vs.isEmpty = ds.isEmpty := by
  cases l <;> rfl
theorem IsK.empty {K : PySem.W.Frag} {A : Addr → Prop} {vs : List (Key × V)} {ds : List (Key × D)} (l : IsK K A H vs ds) : vs.isEmpty = ds.isEmpty := by
  cases l <;> rfl
/-- truth of any value, a dict that is never written again too -/
theorem tru_okD : TruR X (fun x H Q => ∃ k, (TruV X.K x H k ∨ ∃ p kvs, x = V.ref p ∧ Rd H p (.dK kvs) ∧ k = !kvs.isEmpty) ∧ Q k H) := by
  intro pins s σ H x v Q I rx h
  obtain ⟨k, e | ⟨p, kvs, rfl, e, rfl⟩, q⟩ := h
  · exact tru_ok pins s σ H x v Q I rx ⟨k, e, q⟩
  · cases rx
    exact d_truth I e fun s' I' => ⟨H, I', q⟩
theorem pt_truthD {ta : TE} (ha : PE X a ta) (he : ∀ whole, isTrue a X.env whole = (do let v ← whole; standAt a.pos; holding [v] (truthy v))) :
    PT X a (fun σ H Q => ta σ H fun x H' => ∃ k, (TruV X.K x H' k ∨ ∃ p kvs, x = V.ref p ∧ Rd H' p (.dK kvs) ∧ k = !kvs.isEmpty) ∧ Q k H') := by
  refine ⟨fun pins s σ H Q I h => ?_⟩
  exact isTrue_plain (thn (ha.run pins s σ H _ I h) fun v s1 ⟨x, H1, I1, r1, q1⟩ => tru_okD pins s1 σ H1 x v Q I1 r1 q1) (he _)
theorem dt_tru (ha : DE w p X a ga) (he : ∀ whole, isTrue a X.env whole = (do let v ← whole; standAt a.pos; holding [v] (truthy v)) := by intro _; rfl) : DT p X a (gTru ga) := by
  refine ⟨ptI (pt_truthD ha.run he) fun σ H Q ⟨B, E, r, M, O, R, q⟩ => ?_, fun r M Q Q' h q => ha.mono r M _ _ (fun d M1 q1 => ?_) q⟩
  · refine ha.on R q fun d M1 v H1 O1 k1 R1 l1 i1 => ?_
    have j := i1.one
    split at k1
    · rw [is1_non j]; exact ⟨_, .inl rfl, k1 H1 O1 R1 l1⟩
    · rw [is1_bl j]; exact ⟨_, .inl rfl, k1 H1 O1 R1 l1⟩
    · rw [is1_int j]; exact ⟨_, .inl rfl, k1 H1 O1 R1 l1⟩
    · rw [is1_str j]; exact ⟨_, .inl ⟨k1.1, rfl⟩, k1.2 H1 O1 R1 l1⟩
    · obtain ⟨a, vs, rfl, h1, l1'⟩ := j
      exact ⟨_, .inl (.inl ⟨vs, SqL.of h1, by rw [l1'.empty]⟩), k1 H1 O1 R1 l1⟩
    · obtain ⟨a, vs, rfl, h1, l1'⟩ := j
      exact ⟨_, .inl (.inr (.inl ⟨vs, h1, by rw [l1'.empty]⟩)), k1 H1 O1 R1 l1⟩
    · obtain ⟨a, vs, rfl, h1, l1'⟩ := j
      exact ⟨_, .inr ⟨_, vs, rfl, h1, by rw [l1'.empty]⟩, k1 H1 O1 R1 l1⟩
    · exact k1.elim
  · split at q1
    · exact h _ _ q1
    · exact h _ _ q1
    · exact h _ _ q1
    · exact ⟨q1.1, h _ _ q1.2⟩
    · exact h _ _ q1
    · exact h _ _ q1
    · exact h _ _ q1
    · exact q1.elim
end
structure DEnds where
  nx : Fr → Mem → Prop
  rt : D → Mem → Prop
  bk : Fr → Mem → Prop := fun _ _ => False
  ct : Fr → Mem → Prop := fun _ _ => False
abbrev GS := DEnds → Fr → Mem → Prop
def LS (X : Cx) (B : Addr → Prop) (E : En) (D : Ends) : DEnds where
  nx := fun r' M' => ∀ σ' H' O', Rep X B E σ' H' r' M' O' → D.nx σ' H'
  rt := fun d M' => ∀ v H' O', MemOk X.K B H' M' O' → Step E.U E.H (Mut M' O') H' → Is X.K (Av B M' O') H' v d → D.rt v H'
  bk := fun r' M' => ∀ σ' H' O', Rep X B E σ' H' r' M' O' → D.bk σ' H'
  ct := fun r' M' => ∀ σ' H' O', Rep X B E σ' H' r' M' O' → D.ct σ' H'
/-- less is wanted -/
structure DEnds.Le (D D' : DEnds) : Prop where
  nx : ∀ r M, D.nx r M → D'.nx r M
  rt : ∀ d M, D.rt d M → D'.rt d M
  bk : ∀ r M, D.bk r M → D'.bk r M
  ct : ∀ r M, D.ct r M → D'.ct r M
def MonoS (g : GS) : Prop := ∀ D D' r M, DEnds.Le D D' → g D r M → g D' r M
structure DS (X : Cx) (st : Stmt) (g : GS) : Prop where
  run : PS X st (fun D σ H => ∃ B E r M O, Rep X B E σ H r M O ∧ g (LS X B E D) r M)
  mono : MonoS g
structure DSs (X : Cx) (st : List Stmt) (g : GS) : Prop where
  run : PSs X st (fun D σ H => ∃ B E r M O, Rep X B E σ H r M O ∧ g (LS X B E D) r M)
  mono : MonoS g
theorem psI {X : Cx} {e : Stmt} {t t' : TS} (h : PS X e t) (i : ∀ D σ H, t' D σ H → t D σ H) : PS X e t' := ⟨fun pins s σ H D I q => h.run pins s σ H D I (i D σ H q)⟩
theorem pssI {X : Cx} {e : List Stmt} {t t' : TS} (h : PSs X e t) (i : ∀ D σ H, t' D σ H → t D σ H) : PSs X e t' := ⟨fun pins s σ H D I q => h.run pins s σ H D I (i D σ H q)⟩
section
variable {X : Cx} {st : Stmt} {rest : List Stmt} {g g' : GS} {e : Expr} {ge : GE} {w p : Bool} {pos : Pos} {B : Addr → Prop} {E : En} {σ : L2.St} {H : Hp} {r : Fr} {M : Mem} {O : Own}
def gNext : GS := fun D r M => D.nx r M
def gSeq (g g' : GS) : GS := fun D r M => g { D with nx := g' D } r M
theorem dss_nil : DSs X [] gNext := ⟨pssI pss_nil fun D σ H ⟨B, E, r, M, O, R, q⟩ => q σ H O R, fun D D' r M l q => l.nx _ _ q⟩
theorem dss_cons (h1 : DS X st g) (h2 : DSs X rest g') : DSs X (st :: rest) (gSeq g g') := by
  refine ⟨pssI (pss_cons h1.run h2.run) fun D σ H ⟨B, E, r, M, O, R, q⟩ => ⟨B, E, r, M, O, R, h1.mono { LS X B E D with nx := g' (LS X B E D) } _ r M ⟨fun r' M' q' σ' H' O' R' => ⟨B, E, r', M', O', R', q'⟩, fun _ _ q => q, fun _ _ q => q, fun _ _ q => q⟩ q⟩, fun D D' r M l q => ?_⟩
  exact h1.mono { D with nx := g' D } _ r M ⟨fun r' M' q' => h2.mono _ _ _ _ l q', l.rt, l.bk, l.ct⟩ q
theorem dss_one (h1 : DS X st g) : DSs X [st] g := ⟨pss_one h1.run, h1.mono⟩
def gDrop (ge : GE) : GS := fun D r M => ge r M fun _ M1 => D.nx r M1
theorem ds_expr (he : DE w p X e ge) (hs : swapsWith e none pos.line X.env = pure false := by rfl) : DS X (.Expr e pos) (gDrop ge) := by
  refine ⟨psI (ps_expr he.run hs) fun D σ H ⟨B, E, r, M, O, R, q⟩ => ?_, fun D D' r M l q => he.mono _ _ _ _ (fun d M1 q1 => l.nx _ _ q1) q⟩
  exact he.on R q fun d M1 v H1 O1 k1 R1 l1 i1 => k1 σ H1 O1 R1
def gRet (ge : GE) : GS := fun D r M => ge r M D.rt
theorem ds_ret (he : DE true p X e ge) : DS X (.Return (some e) pos) (gRet ge) := by
  refine ⟨psI (ps_ret he.run) fun D σ H ⟨B, E, r, M, O, R, q⟩ => ?_, fun D D' r M l q => he.mono _ _ _ _ (fun d M1 q1 => l.rt _ _ q1) q⟩
  exact he.on R q fun d M1 v H1 O1 k1 R1 l1 i1 => k1 v H1 O1 R1.m R1.ent i1
def gRetN : GS := fun D _ M => D.rt .non M
def gIfS (c : GT) (g g' : GS) : GS := fun D r M => c r M fun b M1 => if b = true then g D r M1 else g' D r M1
theorem ds_if {c : Expr} {a b : List Stmt} {gc : GT} (hc : DT p X c gc) (ha : DSs X a g) (hb : DSs X b g') : DS X (.If c a b pos) (gIfS gc g g') := by
  refine ⟨psI (ps_if hc.run ha.run hb.run) fun D σ H ⟨B, E, r, M, O, R, q⟩ => ?_, fun D D' r M l q => hc.mono _ _ _ _ (fun b M1 q1 => ?_) q⟩
  · refine hc.on R q fun b M1 H1 O1 k1 R1 l1 => ?_
    cases b with
    | true =>
      rw [if_pos rfl] at k1 ⊢
      exact ⟨B, E, r, M1, O1, R1, k1⟩
    | false =>
      rw [if_neg Bool.false_ne_true] at k1 ⊢
      exact ⟨B, E, r, M1, O1, R1, k1⟩
  · cases b with
    | true =>
      rw [if_pos rfl] at q1 ⊢
      exact ha.mono _ _ _ _ l q1
    | false =>
      rw [if_neg Bool.false_ne_true] at q1 ⊢
      exact hb.mono _ _ _ _ l q1
def Fr.set (r : Fr) (i : Nat) (s : Sl) : Fr := { r with sl := r.sl.set i s }
theorem Rep.setv (R : Rep X B E σ H r M O) {v : V} {d : D} (i : Nat) (h : Is X.K (Av B M O) H v d) : Rep X B E (σ.set i (some v)) H (r.set i (.v d)) M O where
  m := R.m
  len := by
    show (σ.set i (some v)).length = (r.sl.set i (.v d)).length
    rw [List.length_set, List.length_set]; exact R.len
  sl := fun j s e => by
    have e : (r.sl.set i (.v d))[j]? = some s := e
    by_cases hj : i = j
    · subst hj
      have hi : i < r.sl.length := by
        obtain ⟨h1, _⟩ := List.getElem?_eq_some_iff.mp e
        simpa using h1
      rw [List.getElem?_set_self hi] at e
      cases e
      rw [List.getElem?_set_self (by rw [R.len]; exact hi)]
      exact ⟨v, rfl, h⟩
    · rw [List.getElem?_set_ne hj] at e
      rw [List.getElem?_set_ne hj]
      exact R.sl j s e
  ent := R.ent
  sub := R.sub
  exc := R.exc
  lk := R.lk
  xe := R.xe
def gSet (i : Nat) (ge : GE) : GS := fun D r M => ge r M fun d M1 => D.nx (r.set i (.v d)) M1
theorem ds_set (i : Nat) {x : Str} {pos' : Pos} (hN : X.N.Nodup) (he : DE true p X e ge) (hi : X.N[i]? = some x := by rfl) (hx : Loc X.env.scope x := by first | exact Or.inl rfl | exact Or.inr rfl) (hs : swapsWith e (some (.Name x pos')) pos.line X.env = pure false := by rfl)
    (hf : X.fn x = true ∨ X.env.scope.names.lookup x = some .local := by first | exact .inl rfl | exact .inr rfl | assumption) : DS X (.Assign [.Name x pos'] e pos) (gSet i ge) := by
  refine ⟨psI (ps_set hN hi hx he.run hs hf) fun D σ H ⟨B, E, r, M, O, R, q⟩ => ?_, fun D D' r M l q => he.mono _ _ _ _ (fun d M1 q1 => l.nx _ _ q1) q⟩
  exact he.on R q fun d M1 v H1 O1 k1 R1 l1 i1 => k1 _ H1 O1 (R1.setv i i1)
end
end DL
set_option Elab.async false
set_option linter.all false
set_option maxRecDepth 100000
namespace DL
open PySem PySem.Spec PyProof.Rows L2
section
variable {X : Cx} {K : PySem.W.Frag} {B B' : Addr → Prop} {E : En} {σ : L2.St} {H H' : Hp} {r : Fr} {M : Mem} {O O' : Own} {p w : Bool} {a : Addr}
/-- the same heap, with other words for what may change -/
theorem step_id {A A' : Addr → Prop} (h : ∀ a, H a ≠ none → ¬ A a → ¬ A' a) : Step A H A' H := fun a o e n => ⟨e, h a (fun z => by rw [z] at e; cases e) n⟩
/-- what stands at A, H stands at A', H' -/
theorem OOk.stepS {A A' : Addr → Prop} (s : Step A H A' H') {l : Addr} (hl : ∀ o, H l = some o → H' l = some o) : ∀ {m : OM}, OOk K A H l m → OOk K A' H' l m
  | .lst _, ⟨vs, e, h⟩ => ⟨vs, hl _ e, h.step s⟩
  | .dic _, ⟨vs, e, h⟩ => ⟨vs, hl _ e, h.step s⟩
theorem FlsOk.stepS {A A' : Addr → Prop} (s : Step A H A' H') (ho : ∀ l f, O l = some (.fld a f) → O' l = some (.fld a f) ∧ ∀ o, H l = some o → H' l = some o) : ∀ {vs : List (Str × V)} {fs : List (Str × Fl)}, FlsOk K A H O a vs fs → FlsOk K A' H' O' a vs fs
  | _, _, .nil => .nil
  | _, _, .v i t => .v (i.step s) (FlsOk.stepS s ho t)
  | _, _, .o e i t => .o (ho _ _ e).1 (i.stepS s (ho _ _ e).2) (FlsOk.stepS s ho t)
theorem MOk.stepS {A A' : Addr → Prop} (s : Step A H A' H') (ha : ∀ o, H a = some o → H' a = some o) (ho : ∀ l f, O l = some (.fld a f) → O' l = some (.fld a f) ∧ ∀ o, H l = some o → H' l = some o) : ∀ {m : MO}, MOk K A H O a m → MOk K A' H' O' a m
  | .om m, x => OOk.stepS s ha x
  | .ins _ _, ⟨dx, vs, e, x⟩ => ⟨dx, vs, ha _ e, x.stepS s ho⟩
  | .st, ⟨kds, q, x⟩ => ⟨kds, q, OOk.stepS s ha x⟩
  | .ho _, e => ha _ e
  | .tab _, ⟨ps, e, t, q⟩ => ⟨ps, ha _ e, t, fun pos cv z => let ⟨c, e1, e2, n⟩ := q pos cv z; ⟨c, e1, (s c _ e2 n).1, (s c _ e2 n).2⟩⟩
theorem SlU.stepS {i : Nat} {x : Option V} {A A' U U' : Addr → Prop} (s : Step A H A' H') (s2 : Step U H U' H') : ∀ {sl : Sl}, (∀ l, O l = some (.slot i) → O' l = some (.slot i) ∧ ∀ o, H l = some o → H' l = some o) → SlU K A U O H i x sl → SlU K A' U' O' H' i x sl
  | .n, _, _ => trivial
  | .v d, _, ⟨v, e, q⟩ => ⟨v, e, q.step s⟩
  | .o m, ho, ⟨l, e, o, q⟩ => ⟨l, e, (ho l o).1, q.stepS s (ho l o).2⟩
  | .b k ds, _, ⟨l, vs, e, q, t⟩ => ⟨l, vs, e, q.step s2, t.step s⟩
  | .s ns, _, ⟨l, e, q⟩ => ⟨l, e, q.step s2⟩
  | .f l, _, ⟨e, q⟩ => ⟨e, q.trans s⟩
def Bp (B : Addr → Prop) (a : Addr) : Addr → Prop := fun b => B b ∨ b = a
theorem av_bp : Av (Bp B a) M O = fun b => Av B M O b ∨ b = a := by
  funext b
  unfold Av Bp
  apply propext
  constructor
  · rintro ((h | h) | h)
    · exact .inl (.inl h)
    · exact .inr h
    · exact .inl (.inr h)
  · rintro ((h | h) | h)
    · exact .inl (.inl h)
    · exact .inr h
    · exact .inl (.inr h)
def Up (U : Addr → Prop) (a : Addr) : Addr → Prop := fun b => U b ∨ b = a
theorem av_up : Av (Bp B a) M O = Up (Av B M O) a := av_bp
theorem step_up {A A' : Addr → Prop} (s : Step A H A' H') : Step (Up A a) H (Up A' a) H' := fun b o e n =>
  have h := s b o e fun z => n (.inl z)
  ⟨h.1, fun z => z.elim h.2 fun z => n (.inr z)⟩
theorem step_dn {A : Addr → Prop} : Step (Up A a) H A H := step_id fun b _ n z => n (.inl z)
/-- a new object at a: no one's yet -/
structure New (X : Cx) (B : Addr → Prop) (E : En) (σ : L2.St) (H : Hp) (r : Fr) (M : Mem) (O : Own) (a : Addr) : Prop where
  m : MemOk X.K (Bp B a) H M O
  len : σ.length = r.sl.length
  sl : ∀ i s, r.sl[i]? = some s → SlU X.K (Up (Av B M O) a) (Up (Mut M O) a) O H i ((σ[i]?).getD none) s
  ent : Step E.U E.H (Up (Mut M O) a) H
  sub : ∀ b, E.B b → B b
  exc : ∀ C M' H' O', MemOk X.K E.B H' M' O' → Step E.U E.H (Mut M' O') H' → E.X C M' → E.W C H'
  lk : Takes X (fun cls d _ H => xk E.W cls d H)
  xe : r.ex = E.X
  nav : ¬ Av B M O a
/-- a new object that nobody stands on -/
theorem New.of (R : Rep X B E σ H r M O) {o : HO} (n : H a = none) : New X B E σ (upd H a o) r M O a := by
  have g : ∀ {A : Addr → Prop}, Step A H (Up A a) (upd H a o) := fun {A} b u e nb => by
    have ne := ne_of_none e n
    exact ⟨by rw [upd_ne ne]; exact e, fun z => z.elim nb ne⟩
  have k : ∀ {b : Addr} (u : HO), H b = some u → upd H a o b = some u := fun u e => by rw [upd_ne (ne_of_none e n)]; exact e
  have na := R.m.fresh n
  refine ⟨⟨fun b mo e => ?_, fun b w e => ?_, fun b z => ?_⟩, R.len, fun i sl e => (R.sl i sl e).stepS g g fun l q => ⟨q, k⟩, R.ent.trans g, R.sub, R.exc, R.lk, R.xe, na⟩
  · obtain ⟨h1, h2, h3⟩ := R.m.mem b mo e
    refine ⟨fun z => z.elim h1 fun z => ?_, h2, ?_⟩
    · subst z
      exact na (.inr (.inl (by rw [e]; simp)))
    · rw [av_up]
      exact h3.stepS g k fun l f q => ⟨q, k⟩
  · obtain ⟨h1, h2⟩ := R.m.own b w e
    refine ⟨fun z => z.elim h1 fun z => ?_, fun z => h2 (Same.free (same_upd n) z)⟩
    subst z
    exact na (.inr (.inr (by rw [e]; simp)))
  · rcases z with z | z
    · exact fun q => R.m.btr b z (Same.free (same_upd n) q)
    · subst z
      rw [upd_same]
      exact fun q => nomatch q
/-- in the meantime: as if it were a caller's -/
theorem New.rep (N : New X B E σ H r M O a) : Rep X (Bp B a) E σ H r M O :=
  ⟨N.m, N.len, fun i sl e => by
    have q := N.sl i sl e
    rw [← av_up] at q
    exact q.stepS (Step.refl _ _) step_dn fun l q => ⟨q, fun _ e => e⟩, N.ent.trans step_dn, fun b z => .inl (N.sub b z), N.exc, N.lk, N.xe⟩
/-- behind an expression that was reckoned in the meantime -/
theorem New.next (N : New X B E σ H r M O a) {M' : Mem} {l : Rl p M O H M' O' H'} (R : Rep X (Bp B a) E σ H' r M' O') (ha : H a ≠ none) : New X B E σ H' r M' O' a := by
  have nav : ¬ Av B M' O' a := fun z => by
    rcases z with z | z
    · exact N.nav (.inl z)
    · cases e : H a with
      | none => exact ha e
      | some o => exact (l.2 a o e fun q => N.nav (.inr q)).2 z
  have sA : Step (Up (Av B M O) a) H (Up (Av B M' O') a) H' := step_up l.avs
  have sU : Step (Up (Mut M O) a) H (Up (Mut M' O') a) H' := step_up l.2
  refine ⟨R.m, R.len, fun i sl e => ?_, N.ent.trans sU, N.sub, N.exc, N.lk, N.xe, nav⟩
  have q := N.sl i sl e
  have q' : SlU X.K (Av (Bp B a) M' O') (Mut M' O') O' H' i ((σ[i]?).getD none) sl := R.sl i sl e
  rw [av_up] at q'
  cases sl with
  | n => trivial
  | v d => exact q'
  | o m => exact q'
  | b k ds =>
    obtain ⟨a, vs, e1, e2, e3⟩ := q
    exact ⟨a, vs, e1, e2.step sU, e3.step sA⟩
  | s ns =>
    obtain ⟨a, e1, e2⟩ := q
    exact ⟨a, e1, e2.step sU⟩
  | f l => exact ⟨q.1, q.2.trans sA⟩
/-- a is no one's -/
theorem New.any (N : New X B E σ H r M O a) : Rep X B E σ H r M O := by
  have s : Step (Up (Av B M O) a) H (Av B M O) H := step_dn
  refine ⟨⟨fun b mo e => ?_, fun b w e => ?_, fun b z => N.m.btr b (.inl z)⟩, N.len, fun i sl e => (N.sl i sl e).stepS s step_dn fun l q => ⟨q, fun _ e => e⟩, N.ent.trans step_dn, N.sub, N.exc, N.lk, N.xe⟩
  · obtain ⟨h1, h2, h3⟩ := N.m.mem b mo e
    rw [av_up] at h3
    exact ⟨fun z => h1 (.inl z), h2, h3.stepS s (fun _ e => e) fun l f q => ⟨q, fun _ e => e⟩⟩
  · obtain ⟨h1, h2⟩ := N.m.own b w e
    exact ⟨fun z => h1 (.inl z), h2⟩
def OM.d : OM → D
  | .lst ds => .lst ds
  | .dic ds => .dic ds
/-- .. and it is data -/
theorem New.is (N : New X B E σ H r M O a) {ds : List D} : OOk X.K (Up (Av B M O) a) H a (.lst ds) → Is X.K (Av B M O) H (.ref a) (.lst ds)
  | ⟨vs, e, l⟩ => .lst ⟨N.nav, e⟩ (l.step step_dn)
/-- a is the i-th slot's own -/
def osl (O : Own) (a : Addr) (i : Nat) : Own := fun b => if b = a then some (.slot i) else O b
theorem osl_same {i : Nat} : osl O a i a = some (.slot i) := by unfold osl; rw [if_pos rfl]
theorem osl_ne {i : Nat} {b : Addr} (h : b ≠ a) : osl O a i b = O b := by unfold osl; rw [if_neg h]
theorem mut_osl {i : Nat} : Mut M (osl O a i) = Up (Mut M O) a := by
  funext b
  apply propext
  unfold Mut osl Up
  by_cases h : b = a
  · simp [h, Mut]
  · simp [h, Mut]
theorem av_osl {i : Nat} : Av B M (osl O a i) = Up (Av B M O) a := by
  funext b
  apply propext
  unfold Av
  rw [mut_osl]
  show (B b ∨ Mut M O b ∨ b = a) ↔ ((B b ∨ Mut M O b) ∨ b = a)
  constructor
  · rintro (h | h | h)
    · exact .inl (.inl h)
    · exact .inl (.inr h)
    · exact .inr h
  · rintro ((h | h) | h)
    · exact .inl h
    · exact .inr (.inl h)
    · exact .inr (.inr h)
theorem OOk.there' {A : Addr → Prop} {m : OM} (h : OOk K A H a m) : H a ≠ none := by
  cases m with
  | lst ds => obtain ⟨vs, e, _⟩ := h; rw [e]; exact fun z => nomatch z
  | dic ds => obtain ⟨vs, e, _⟩ := h; rw [e]; exact fun z => nomatch z
theorem New.toSlot (N : New X B E σ H r M O a) (i : Nat) {m : OM} (hm : OOk X.K (Up (Av B M O) a) H a m) : Rep X B E (σ.set i (some (.ref a))) H (r.set i (.o m)) M (osl O a i) := by
  have nO : O a = none := by
    cases e : O a with
    | none => rfl
    | some w => exact (N.nav (.inr (.inr (by rw [e]; simp)))).elim
  have nM : M a = none := by
    cases e : M a with
    | none => rfl
    | some w => exact (N.nav (.inr (.inl (by rw [e]; simp)))).elim
  have hob : ∀ {b : Addr} {w : Ow}, O b = some w → osl O a i b = some w := fun {b w} e => by
    rw [osl_ne (fun z => by subst z; rw [nO] at e; cases e)]; exact e
  refine ⟨⟨fun b mo e => ?_, fun b w e => ?_, fun b z => N.m.btr b (.inl z)⟩, ?_, fun j sl e => ?_, ?_, N.sub, N.exc, N.lk, N.xe⟩
  · obtain ⟨h1, h2, h3⟩ := N.m.mem b mo e
    have nb : b ≠ a := fun z => by subst z; rw [nM] at e; cases e
    rw [av_up] at h3
    rw [av_osl, osl_ne nb]
    exact ⟨fun z => h1 (.inl z), h2, h3.stepS (Step.refl _ _) (fun _ e => e) fun l f q => ⟨hob q, fun _ e => e⟩⟩
  · by_cases hb : b = a
    · subst hb
      exact ⟨fun z => N.nav (.inl z), hm.there'⟩
    · rw [osl_ne hb] at e
      obtain ⟨h1, h2⟩ := N.m.own b w e
      exact ⟨fun z => h1 (.inl z), h2⟩
  · show (σ.set i _).length = (r.sl.set i _).length
    rw [List.length_set, List.length_set]; exact N.len
  · have e : (r.sl.set i (.o m))[j]? = some sl := e
    show SlU X.K (Av B M (osl O a i)) (Mut M (osl O a i)) (osl O a i) H j _ sl
    rw [av_osl, mut_osl]
    by_cases hj : i = j
    · subst hj
      have hi : i < r.sl.length := by
        obtain ⟨h1, _⟩ := List.getElem?_eq_some_iff.mp e
        simpa using h1
      rw [List.getElem?_set_self hi] at e
      cases e
      rw [List.getElem?_set_self (by rw [N.len]; exact hi)]
      exact ⟨a, rfl, osl_same, hm⟩
    · rw [List.getElem?_set_ne hj] at e
      rw [List.getElem?_set_ne hj]
      exact (N.sl j sl e).stepS (Step.refl _ _) (Step.refl _ _) fun l q => ⟨hob q, fun _ e => e⟩
  · rw [mut_osl]; exact N.ent
end
end DL
set_option Elab.async false
set_option linter.all false
set_option maxRecDepth 100000
namespace DL
open PySem PySem.Spec PyProof.Rows L2
abbrev GF := Fr → Mem → (OM → Mem → Prop) → Prop
structure DF (p : Bool) (X : Cx) (e : Expr) (g : GF) : Prop where
  run : PE X e (fun σ H Q => ∃ B E r M O, Rep X B E σ H r M O ∧ g r M (fun m M' => ∀ a H' O', New X B E σ H' r M' O' a → Rl p M O H M' O' H' → OOk X.K (Up (Av B M' O') a) H' a m → Q (.ref a) H'))
  mono : ∀ r M Q Q', (∀ d M', Q d M' → Q' d M') → g r M Q → g r M Q'
section
variable {X : Cx} {w p : Bool} {e : Expr} {es : List Expr} {g ga : GE} {gf : GF} {gs : GA} {B : Addr → Prop} {E : En} {σ : L2.St} {H : Hp} {r : Fr} {M : Mem} {O : Own} {pos : Pos}
theorem DF.on (ha : DF p X e gf) (R : Rep X B E σ H r M O) {k : OM → Mem → Prop} (h : gf r M k) {Q : VK}
    (hk : ∀ m M1 a H1 O1, k m M1 → New X B E σ H1 r M1 O1 a → Rl p M O H M1 O1 H1 → OOk X.K (Up (Av B M1 O1) a) H1 a m → Q (.ref a) H1) :
    ∃ B E r M O, Rep X B E σ H r M O ∧ gf r M (fun m M' => ∀ a H' O', New X B E σ H' r M' O' a → Rl p M O H M' O' H' → OOk X.K (Up (Av B M' O') a) H' a m → Q (.ref a) H') :=
  ⟨B, E, r, M, O, R, ha.mono r M _ _ (fun d M1 h1 v H1 O1 R1 l1 i1 => hk d M1 v H1 O1 h1 R1 l1 i1) h⟩
def gFd (gf : GF) : GE := fun r M Q => gf r M fun m M1 => match m with
  | .lst ds => Q (.lst ds) M1
  | .dic _ => False
/-- as data -/
theorem DF.de (h : DF p X e gf) : DE true p X e (gFd gf) :=
  ⟨peI h.run fun σ H Q ⟨B, E, r, M, O, R, q⟩ => h.on R q fun m M1 a H1 O1 k1 N1 l1 i1 => by
    cases m with
    | lst ds => exact k1 _ H1 O1 N1.any l1 (N1.is i1)
    | dic ds => exact k1.elim, fun r M Q Q' hh q => h.mono r M _ _ (fun m M1 q1 => by
    cases m with
    | lst ds => exact hh _ _ q1
    | dic ds => exact q1) q⟩
def gFl (gs : GA) : GF := fun r M Q => gs r M fun ds M1 => Q (.lst ds) M1
theorem new_lst (R : Rep X B E σ H r M O) {vs : List V} {ds : List D} (l : IsL X.K (Av B M O) H vs ds) {a : Addr} (n : H a = none) : New X B E σ (upd H a (.lst vs)) r M O a ∧ OOk X.K (Up (Av B M O) a) (upd H a (.lst vs)) a (.lst ds) :=
  ⟨New.of R n, vs, upd_same, l.step fun b u e nb => by
    have ne := ne_of_none e n
    exact ⟨by rw [upd_ne ne]; exact e, fun z => z.elim nb ne⟩⟩
theorem df_lst {n : Nat} (hs : DAn true p X n es gs) (hn : n ≤ sizeLine := by decide) : DF p X (.List es pos) (gFl gs) := by
  refine ⟨peI (pe_lst hs.da.run) fun σ H Q ⟨B, E, r, M, O, R, q⟩ => ?_, fun r M Q Q' h q => hs.da.mono r M _ _ (fun ds M1 q1 => h _ _ q1) q⟩
  refine hs.da.on R (hs.z hn _ _ _ q) fun ds M1 vs H1 O1 k1 R1 l1 i1 => ?_
  have i2 := isXL_strong i1
  refine ⟨by rw [i2.length]; exact k1.1, fun a n => ?_⟩
  obtain ⟨N, q⟩ := new_lst R1 i2 n
  exact k1.2 a _ O1 N (l1.trans (Rl.of_same (same_upd n))) q
/-- list(x), x a list or a tuple -/
def gFlist (ga : GE) : GF := fun r M Q => ga r M fun d M1 => match d with
  | .lst xs => Q (.lst xs) M1
  | .tup xs => Q (.lst xs) M1
  | .dic kds => Q (.lst (kds.map fun kv => kD kv.1)) M1
  | _ => False
theorem df_list {pf : Pos} (hc : X.calm = true) (ha : DE w p X e ga) (hg : Gl X "list") (hm : X.mg "list" = none) (hst : starEach [e] X.env = (false, eval e X.env) :: starEach [] X.env := by rfl) (hpl : (backTo pos (starEach [] X.env)).any (·.1) = false := by rfl) :
    DF p X (.Call (.Name "list" pf) [e] [] pos) (gFlist ga) := by
  refine ⟨peI (pe_callTy (call_list_of.or (call_listD hc)) hg hm (by decide +kernel) (da_one ha hst).run (by decide) (by decide) hst hpl) fun σ H Q ⟨B, E, r, M, O, R, q⟩ => ?_, fun r M Q Q' h q => ha.mono r M _ _ (fun d M1 q1 => ?_) q⟩
  · have hda := da_one (w := w) ha hst
    refine hda.on R (k := fun ds M1 => match ds with
      | [.lst xs] => ∀ a H' O', New X B E σ H' r M1 O' a → Rl p M O H M1 O' H' → OOk X.K (Up (Av B M1 O') a) H' a (.lst xs) → Q (.ref a) H'
      | [.tup xs] => ∀ a H' O', New X B E σ H' r M1 O' a → Rl p M O H M1 O' H' → OOk X.K (Up (Av B M1 O') a) H' a (.lst xs) → Q (.ref a) H'
      | [.dic kds] => ∀ a H' O', New X B E σ H' r M1 O' a → Rl p M O H M1 O' H' → OOk X.K (Up (Av B M1 O') a) H' a (.lst (kds.map fun kv => kD kv.1)) → Q (.ref a) H'
      | _ => False) (ha.mono r M _ _ (fun d M1 q1 => ?_) q) fun ds M1 vs H1 O1 k1 R1 l1 i1 => ?_
    · cases d with
      | lst xs => exact q1
      | tup xs => exact q1
      | dic xs => exact q1
      | _ => exact q1.elim
    · have i2 := isXL_weak i1
      split at k1
      · obtain ⟨v, rfl, a, vs, rfl, h1, l2⟩ := isXL1 i2
        refine .inl ⟨a, vs, rfl, .inl (SqL.of h1), fun b n => ?_⟩
        obtain ⟨N, q⟩ := new_lst R1 l2 n
        exact k1 b _ O1 N (l1.trans (Rl.of_same (same_upd n))) q
      · obtain ⟨v, rfl, a, vs, rfl, h1, l2⟩ := isXL1 i2
        refine .inl ⟨a, vs, rfl, .inr h1, fun b n => ?_⟩
        obtain ⟨N, q⟩ := new_lst R1 l2 n
        exact k1 b _ O1 N (l1.trans (Rl.of_same (same_upd n))) q
      · obtain ⟨v, rfl, a, vs, rfl, h1, l2⟩ := isXL1 i2
        refine .inr ⟨a, vs, rfl, h1, fun b n => ?_⟩
        obtain ⟨N, q⟩ := new_lst R1 l2.keys n
        exact k1 b _ O1 N (l1.trans (Rl.of_same (same_upd n))) q
      · exact k1.elim
  · cases d with
    | lst xs => exact h _ _ q1
    | tup xs => exact h _ _ q1
    | dic xs => exact h _ _ q1
    | _ => exact q1.elim
def gOwn (i : Nat) (gf : GF) : GS := fun D r M => gf r M fun m M1 => D.nx (r.set i (.o m)) M1
theorem ds_own (i : Nat) {x : Str} {pos' : Pos} (hN : X.N.Nodup) (he : DF p X e gf) (hi : X.N[i]? = some x := by rfl) (hx : Loc X.env.scope x := by first | exact Or.inl rfl | exact Or.inr rfl) (hs : swapsWith e (some (.Name x pos')) pos.line X.env = pure false := by rfl)
    (hf : X.fn x = true ∨ X.env.scope.names.lookup x = some .local := by first | exact .inl rfl | exact .inr rfl | assumption) : DS X (.Assign [.Name x pos'] e pos) (gOwn i gf) := by
  refine ⟨psI (ps_set hN hi hx he.run hs hf) fun D σ H ⟨B, E, r, M, O, R, q⟩ => ?_, fun D D' r M l q => he.mono _ _ _ _ (fun d M1 q1 => l.nx _ _ q1) q⟩
  exact he.on R q (Q := fun x H1 => D.nx (σ.set i (some x)) H1) fun m M1 a H1 O1 k1 N1 l1 i1 => k1 _ H1 _ (N1.toSlot i i1)
/-- an own list is written: it alone changes -/
theorem Rep.mutO (R : Rep X B E σ H r M O) {i : Nat} {a : Addr} {m m' : OM} {u : HO} (hr : r.sl[i]? = some (.o m)) (hs : σ[i]? = some (some (.ref a))) (ha : O a = some (.slot i)) (hu : OOk X.K (Av B M O) (upd H a u) a m') :
    Rep X B E σ (upd H a u) (r.set i (.o m')) M O := by
  have mA : Mut M O a := .inr (by rw [ha]; simp)
  have keep : ∀ {b : Addr} {o : HO}, b ≠ a → H b = some o → upd H a u b = some o := fun {b o} h e => by rw [upd_ne h]; exact e
  have s : ∀ {A : Addr → Prop}, A a → Step A H A (upd H a u) := fun hA b o e nb => ⟨keep (fun z => nb (by rw [z]; exact hA)) e, nb⟩
  refine ⟨⟨fun b mo e => ?_, fun b w e => ?_, fun b z => ?_⟩, ?_, fun j sl e => ?_, R.ent.trans (s mA), R.sub, R.exc, R.lk, R.xe⟩
  · obtain ⟨h1, h2, h3⟩ := R.m.mem b mo e
    have nb : b ≠ a := fun z => by subst z; rw [ha] at h2; cases h2
    refine ⟨h1, h2, h3.stepS (s (.inr mA)) (fun o e => keep nb e) fun l f q => ⟨q, fun o e => keep (fun z => ?_) e⟩⟩
    subst z
    rw [ha] at q
    cases q
  · obtain ⟨h1, h2⟩ := R.m.own b w e
    refine ⟨h1, fun z => h2 ?_⟩
    by_cases hb : b = a
    · subst hb; rw [upd_same] at z; cases z
    · rw [upd_ne hb] at z; exact z
  · have q := R.m.btr b z
    by_cases hb : b = a
    · subst hb; rw [upd_same]; exact fun z => nomatch z
    · rw [upd_ne hb]; exact q
  · show σ.length = (r.sl.set i _).length
    rw [List.length_set]; exact R.len
  · have e : (r.sl.set i (.o m'))[j]? = some sl := e
    by_cases hj : i = j
    · subst hj
      have hi : i < r.sl.length := (List.getElem?_eq_some_iff.mp hr).1
      rw [List.getElem?_set_self hi] at e
      cases e
      rw [hs]
      exact ⟨a, rfl, ha, hu⟩
    · rw [List.getElem?_set_ne hj] at e
      refine (R.sl j sl e).stepS (s (.inr mA)) (s mA) fun l q => ⟨q, fun o e => keep (fun z => ?_) e⟩
      subst z
      rw [ha] at q
      cases q
      exact hj rfl
def gApp (i : Nat) (ge : GE) : GS := fun D r M => match r.sl[i]? with
  | some (.o (.lst ds)) => ge r M fun d M1 => ds.length < sizeLine ∧ D.nx (r.set i (.o (.lst (ds ++ [d])))) M1
  | _ => False
theorem ds_app (i : Nat) {x : Str} {px apos cpos : Pos} (he : DE true p X e ge) (hN : X.N[i]? = some x := by rfl) (hv : Vis X.env.scope x := by first | exact Or.inl rfl | exact Or.inr (Or.inl rfl) | exact Or.inr (Or.inr rfl)) (hd : (x == ("__debug__" : Str)) = false := by decide)
    (hcd : (x == ("__classdict__" : Str)) = false := by decide)
    (hbase : attributeBase (.Name x px) "append" X.env (eval (.Name x px) X.env) = eval (.Name x px) X.env := by rfl)
    (hfew : ((backTo cpos (starEach [e] X.env)).all (fun x => !x.1) && (backToKw cpos (keywordEach [] X.env)).all (fun x => x.1.isSome)
      && decide ([e].length + ([] : List Keyword).length + (if ([] : List Keyword).isEmpty then 0 else 1) < 30)) = true := by rfl)
    (hline : (apos.endLine == cpos.line) = true := by rfl) (hs : starEach [e] X.env = (false, eval e X.env) :: starEach [] X.env := by rfl) (hplain : (backTo cpos (starEach [] X.env)).any (·.1) = false := by rfl)
    (hsw : swapsWith (.Call (.Attribute (.Name x px) "append" apos) [e] [] cpos) none pos.line X.env = pure false := by rfl) :
    DS X (.Expr (.Call (.Attribute (.Name x px) "append" apos) [e] [] cpos) pos) (gApp i ge) := by
  have he' := da_one (w := true) he hs
  refine ⟨psI (ps_expr (pe_bm PySem.F.plainAttrs_list PySem.F.slot_list_append PySem.F.type_list_append mt_append (pe_var (pos := px) hN hv hd hcd) he'.run hbase hfew hline hs hplain) hsw) fun D σ H ⟨B, E, r, M, O, R, q⟩ => ?_, fun D D' r M l q => ?_⟩
  · unfold gApp at q
    split at q
    · rename_i ds er
      obtain ⟨x, e1, a, e2, ha, vs, e3, l3⟩ := R.slot er
      subst e2
      refine ⟨.ref a, e1, .inl ⟨rfl, vs, SqL.of e3⟩, ?_⟩
      refine he'.on R (k := fun zs M1 => ∃ d, zs = [d] ∧ ds.length < sizeLine ∧ (LS X B E D).nx (r.set i (.o (.lst (ds ++ [d])))) M1) (he.mono _ _ _ _ (fun d M1 q1 => ⟨d, rfl, q1⟩) q) fun zs M1 us H1 O1 k1 R1 l1 i1 => ?_
      obtain ⟨d, rfl, hz, k1⟩ := k1
      have i2 := isXL_strong i1
      cases i2 with
      | @cons v _ us' _ i3 t =>
        cases t
        obtain ⟨x', f1, a', f2, ha', vs', f3, l3'⟩ := R1.slot er
        rw [e1] at f1
        cases f1
        have f2 : some (V.ref a) = some (V.ref a') := f2
        cases f2
        refine ⟨a, vs', v, rfl, rfl, f3, by rw [l3'.length]; exact hz, ?_⟩
        refine k1 σ _ O1 (R1.mutO er e1 ha' ⟨vs' ++ [v], upd_same, ?_⟩)
        have s : Step (Av B M1 O1) H1 (Av B M1 O1) (upd H1 a (.lst (vs' ++ [v]))) := fun b o eb nb => ⟨by
          rw [upd_ne (fun z => nb (by rw [z]; exact .inr (.inr (by rw [ha']; simp))))]; exact eb, nb⟩
        exact (l3'.append (.cons i3 .nil)).step s
    · exact q.elim
  · unfold gApp at q ⊢
    split at q
    · exact he.mono _ _ _ _ (fun d M1 q1 => ⟨q1.1, l.nx _ _ q1.2⟩) q
    · exact q.elim
/-- from here on it is data -/
def frz (i : Nat) (r : Fr) : Fr := match r.sl[i]? with
  | some (.o m) => r.set i (.v m.d)
  | _ => r
def gFrz (i : Nat) (g : GS) : GS := fun D r M => g D (frz i r) M
def unown (O : Own) (a : Addr) : Own := fun b => if b = a then none else O b
theorem Rep.frzG (R : Rep X B E σ H r M O) {i : Nat} {m : OM} {a : Addr} {H' : Hp} (er : r.sl[i]? = some (.o m)) (e1 : σ[i]? = some (some (.ref a))) (ha : O a = some (.slot i))
    (hk : ∀ b o, b ≠ a → H b = some o → H' b = some o) (hn : H' a ≠ none) (hi : ∀ A', ¬ A' a → Step (Av B M O) H A' H' → Is X.K A' H' (.ref a) m.d) : Rep X B E σ H' (r.set i (.v m.d)) M (unown O a) := by
  have mA : Mut M O a := .inr (by rw [ha]; simp)
  have le : ∀ b, Mut M (unown O a) b → Mut M O b := fun b z => by
    rcases z with z | z
    · exact .inl z
    · unfold unown at z
      by_cases hb : b = a
      · rw [if_pos hb] at z; exact absurd rfl z
      · rw [if_neg hb] at z; exact .inr z
  have leA : ∀ b, Av B M (unown O a) b → Av B M O b := fun b z => z.elim .inl fun z => .inr (le b z)
  have s : Step (Av B M O) H (Av B M (unown O a)) H' := fun b o e n => ⟨hk b o (fun z => n (by rw [z]; exact .inr mA)) e, fun z => n (leA b z)⟩
  have sU : Step (Mut M O) H (Mut M (unown O a)) H' := fun b o e n => ⟨hk b o (fun z => n (by rw [z]; exact mA)) e, fun z => n (le b z)⟩
  have hun : ∀ {b : Addr} {w : Ow}, b ≠ a → O b = some w → unown O a b = some w := fun hb e => by unfold unown; rw [if_neg hb]; exact e
  have nB := (R.m.own a _ ha).1
  have nM : M a = none := by
    cases e : M a with
    | none => rfl
    | some mo => have := (R.m.mem a mo e).2.1; rw [ha] at this; cases this
  have nAv : ¬ Av B M (unown O a) a := fun z => by
    rcases z with z | z | z
    · exact nB z
    · exact z nM
    · unfold unown at z; rw [if_pos rfl] at z; exact absurd rfl z
  refine ⟨⟨fun b mo e => ?_, fun b w e => ?_, fun b z => ?_⟩, ?_, fun j sl e => ?_, R.ent.trans sU, R.sub, R.exc, R.lk, R.xe⟩
  · obtain ⟨h1, h2, h3⟩ := R.m.mem b mo e
    have nb : b ≠ a := fun z => by rw [z, nM] at e; cases e
    refine ⟨h1, ?_, h3.stepS s (fun o e => hk b o nb e) fun l f q => ?_⟩
    · unfold unown
      split
      · rfl
      · exact h2
    · have nl : l ≠ a := fun z => by rw [z, ha] at q; cases q
      exact ⟨hun nl q, fun o e => hk l o nl e⟩
  · unfold unown at e
    split at e
    · cases e
    · rename_i nb
      obtain ⟨g1, g2⟩ := R.m.own b w e
      refine ⟨g1, fun z => ?_⟩
      cases eb : H b with
      | none => exact g2 eb
      | some o => rw [hk b o nb eb] at z; cases z
  · intro q
    by_cases hb : b = a
    · rw [hb] at q; exact hn q
    · cases eb : H b with
      | none => exact R.m.btr b z eb
      | some o => rw [hk b o hb eb] at q; cases q
  · show σ.length = (r.sl.set i _).length
    rw [List.length_set]; exact R.len
  · have e : (r.sl.set i (.v m.d))[j]? = some sl := e
    by_cases hj : i = j
    · subst hj
      have hi' : i < r.sl.length := (List.getElem?_eq_some_iff.mp er).1
      rw [List.getElem?_set_self hi'] at e
      cases e
      rw [e1]
      exact ⟨.ref a, rfl, hi _ nAv s⟩
    · rw [List.getElem?_set_ne hj] at e
      refine (R.sl j sl e).stepS s sU fun l q => ?_
      have nl : l ≠ a := fun z => by rw [z, ha] at q; cases q; exact hj rfl
      exact ⟨hun nl q, fun o e => hk l o nl e⟩
/-- a dict is never written again from here on -/
theorem pss_fz {rest : List Stmt} {t : TS} (h : PSs X rest t) : PSs X rest (fun D σ H => t D σ H ∨ ∃ a kvs, H a = some (.dK kvs) ∧ ∀ o, t D σ (upd H a (.frz o (.dK kvs)))) :=
  ⟨fun pins s σ H D I q => by
    rcases q with q | ⟨a, kvs, e, q⟩
    · exact h.run pins s σ H D I q
    · obtain ⟨o, I2⟩ := I.lock e (by trivial)
      exact h.run pins s σ _ D I2 (q o)⟩
theorem dss_frz (i : Nat) {rest : List Stmt} {g : GS} (h : DSs X rest g) : DSs X rest (gFrz i g) := by
  refine ⟨pssI (pss_fz h.run) fun D σ H ⟨B, E, r, M, O, R, q⟩ => ?_, fun D D' r M l q => h.mono _ _ _ _ l q⟩
  unfold gFrz DL.frz at q
  split at q
  · rename_i m er
    obtain ⟨x, e1, a, e2, ha, hm⟩ := R.slot er
    subst e2
    cases m with
    | lst ds =>
      obtain ⟨vs, h1, h2⟩ := hm
      exact .inl ⟨B, E, _, M, _, R.frzG er e1 ha (fun b o _ e => e) (by rw [h1]; simp) (fun A' nA s => .lst ⟨nA, h1⟩ (h2.step s)), q⟩
    | dic ds =>
      obtain ⟨kvs, h1, h2⟩ := hm
      exact .inr ⟨a, kvs, h1, fun o => ⟨B, E, _, M, _, R.frzG er e1 ha (fun b o' nb e => by rw [upd_ne nb]; exact e) (by rw [upd_same]; simp) (fun A' nA s => .dic ⟨nA, o, upd_same⟩ (h2.step s)), q⟩⟩
  · exact .inl ⟨B, E, r, M, O, R, q⟩
end
end DL
set_option Elab.async false
set_option linter.all false
set_option maxRecDepth 100000
namespace DL
open PySem PySem.Spec PyProof.Rows L2
abbrev GG := D → Fr → Mem → (Fr → Mem → Prop) → Prop
abbrev GGs := List D → Fr → Mem → (Fr → Mem → Prop) → Prop
theorem pgI {X : Cx} {e : Expr} {t t' : TG} (h : PG X e t) (i : ∀ v σ H Q, t' v σ H Q → t v σ H Q) : PG X e t' := ⟨fun pins s σ H v u Q I r q => h.run pins s σ H v u Q I r (i v σ H Q q)⟩
def gtN (i : Nat) : GG := fun d r M Q => Q (r.set i (.v d)) M
def gtNil : GGs := fun ds r M Q => ds = [] ∧ Q r M
def gtCons (g : GG) (gs : GGs) : GGs := fun ds r M Q => match ds with
  | d :: r' => g d r M fun r1 M1 => gs r' r1 M1 Q
  | [] => False
/-- but for the slots at ws nothing is stored -/
def Out (ws : List Nat) (σ σ' : L2.St) : Prop := σ'.length = σ.length ∧ ∀ j, j ∉ ws → σ'[j]? = σ[j]?
theorem Out.trans {ws ws' : List Nat} {σ σ' σ'' : L2.St} (a : Out ws σ σ') (b : Out ws' σ' σ'') : Out (ws ++ ws') σ σ'' :=
  ⟨b.1.trans a.1, fun j h => (b.2 j fun z => h (List.mem_append_right _ z)).trans (a.2 j fun z => h (List.mem_append_left _ z))⟩
structure DGp (X : Cx) (t : Expr) (ws : List Nat) (g : GG) : Prop where
  run : PG X t (fun v σ H Q => ∃ B E r M O d, Rep X B E σ H r M O ∧ Is X.K (Av B M O) H v d ∧ g d r M fun r' M' => M' = M ∧ ∀ σ', Out ws σ σ' → Rep X B E σ' H r' M O → Q σ' H)
  mono : ∀ d r M Q Q', (∀ r' M', Q r' M' → Q' r' M') → g d r M Q → g d r M Q'
/-- M stays, and the slots but for those at ws -/
def SameM (ws : List Nat) (g : GG) : Prop := ∀ d r M Q, g d r M Q → g d r M fun r' M' => (M' = M ∧ ∀ j, j ∉ ws → r'.sl[j]? = r.sl[j]?) ∧ Q r' M'
structure DT' (X : Cx) (t : Expr) (ws : List Nat) (g : GG) : Prop where
  p : DGp X t ws g
  s : SameM ws g
section
variable {X : Cx} {w p : Bool} {e t : Expr} {es : List Expr} {g ga ge : GE} {gf : GF} {gs : GA} {gt : GG} {gts : GGs} {B : Addr → Prop} {E : En} {σ : L2.St} {H : Hp} {r : Fr} {M : Mem} {O : Own} {pos : Pos}
theorem dt_name (i : Nat) {x : Str} (hN : X.N.Nodup) (hi : X.N[i]? = some x := by rfl) (hx : Loc X.env.scope x := by first | exact Or.inl rfl | exact Or.inr rfl) (hf : X.fn x = true ∨ X.env.scope.names.lookup x = some .local := by first | exact .inl rfl | exact .inr rfl | assumption) : DT' X (.Name x pos) [i] (gtN i) :=
  ⟨⟨pgI (pg_name hN hi hx hf) fun v σ H Q ⟨B, E, r, M, O, d, R, i1, q⟩ => q.2 _ ⟨List.length_set .., fun j hj => List.getElem?_set_ne (fun z => hj (by simp [z]))⟩ (R.setv i i1), fun d r M Q Q' h q => h _ _ q⟩, fun d r M Q q => ⟨⟨rfl, fun j hj => List.getElem?_set_ne (fun z => hj (by simp [z]))⟩, q⟩⟩
def gtTup (gts : GGs) (n : Nat) : GG := fun d r M Q => match d with
  | .tup ds => ds.length = n ∧ gts ds r M Q
  | _ => False
/-- target = e -/
def gAsg (ge : GE) (gt : GG) : GS := fun D r M => ge r M fun d M1 => gt d r M1 D.nx
/-- x, y = a, b (names) -/
def gPar (i j : Nat) (gs : GA) : GS := fun D r M => gs r M fun ds M1 => match ds with
  | [d, e] => D.nx ((r.set i (.v d)).set j (.v e)) M1
  | _ => False
/-- x += e, x a name whose value is a number or a text -/
def gAug (i : Nat) (go : GO) (ge : GE) : GS := fun D r M => match r.sl[i]? with
  | some (.v d) => ge r M fun e M1 => go d e M1 fun z M2 => D.nx (r.set i (.v z)) M2
  | _ => False
def goPlus : GO := fun d e M Q => match d, e with
  | .int i, .int j => Q (.int (i + j)) M
  | _, _ => False
abbrev GI := Fr → Mem → (List D → Mem → Prop) → Prop
/-- from a state on: item by item, as long as only what may change changes -/
def WalkOk (X : Cx) (B : Addr → Prop) (H1 : Hp) (M1 : Mem) (O1 : Own) (J : It) (ds : List D) : Prop := ∀ A U H, (∀ b, H b = none → ¬ A b) → Step (Av B M1 O1) H1 A H → Step (Mut M1 O1) H1 U H → ∀ i,
  (∀ d, ds[i]? = some d → J.go i H ∧ ∀ x H', J.yld i H x H' → Same H H' ∧ Is X.K A H' x d) ∧ (ds.length ≤ i → J.stop i H)
/-- .. while what was there stays as it was (where p says so) -/
def WalkQ (p : Bool) (X : Cx) (B : Addr → Prop) (H1 : Hp) (M1 : Mem) (O1 : Own) (J : It) (ds : List D) : Prop := ∀ A U H, (∀ b, H b = none → ¬ A b) → Step (Av B M1 O1) H1 A H → Step (Mut M1 O1) H1 U H → (p = true → Same H1 H) → ∀ i,
  (∀ d, ds[i]? = some d → J.go i H ∧ ∀ x H', J.yld i H x H' → Same H H' ∧ Is X.K A H' x d) ∧ (ds.length ≤ i → J.stop i H)
theorem WalkOk.q {p : Bool} {X : Cx} {B : Addr → Prop} {H1 : Hp} {M1 : Mem} {O1 : Own} {J : It} {ds : List D} (h : WalkOk X B H1 M1 O1 J ds) : WalkQ p X B H1 M1 O1 J ds := fun A U H a b c _ => h A U H a b c
structure DI (p : Bool) (X : Cx) (tg iter : Expr) (gi : GI) : Prop where
  ex : ∃ wi, PI X tg iter wi ∧ ∀ B E σ H r M O k R', Rep X B E σ H r M O → gi r M k → (∀ ds M1 H1 O1 J, k ds M1 → Rep X B E σ H1 r M1 O1 → Rl p M O H M1 O1 H1 → WalkOk X B H1 M1 O1 J ds → R' J H1) → wi σ H R'
  mono : ∀ r M Q Q', (∀ d M', Q d M' → Q' d M') → gi r M Q → gi r M Q'
/-- from here on: the heap as it is now -/
def En.now (E : En) (H : Hp) (M : Mem) (O : Own) : En := { E with H := H, U := Mut M O }
theorem Rep.now (R : Rep X B E σ H r M O) : Rep X B (E.now H M O) σ H r M O :=
  ⟨R.m, R.len, R.sl, Step.refl _ _, R.sub, fun C M' H' O' h1 h2 h3 => R.exc C M' H' O' h1 (R.ent.trans h2) h3, R.lk, R.xe⟩
theorem Rep.then (R : Rep X B E σ H r M O) {σ' : L2.St} {H' : Hp} {r' : Fr} {M' : Mem} {O' : Own} (R' : Rep X B (E.now H M O) σ' H' r' M' O') : Rep X B E σ' H' r' M' O' :=
  ⟨R'.m, R'.len, R'.sl, R.ent.trans R'.ent, R.sub, R.exc, R.lk, R'.xe⟩
end
end DL
set_option Elab.async false
set_option linter.all false
set_option maxRecDepth 100000
namespace DL
open PySem PySem.Spec PyProof.Rows L2
section
variable {X : Cx} {w p : Bool} {e t iter tg : Expr} {es : List Expr} {g ga ge : GE} {gf : GF} {gs : GA} {gt : GG} {gi : GI} {B : Addr → Prop} {E : En} {σ : L2.St} {H : Hp} {r : Fr} {M : Mem} {O : Own} {pos : Pos}
theorem av_step {H1 : Hp} {M1 : Mem} {O1 : Own} (s : Step (Mut M1 O1) H1 (Mut M O) H) : Step (Av B M1 O1) H1 (Av B M O) H := fun a o e n =>
  have n1 : ¬ B a := fun z => n (.inl z)
  have ⟨h1, h2⟩ := s a o e fun z => n (.inr z)
  ⟨h1, fun z => z.elim n1 h2⟩
/-- a list or tuple that stands -/
theorem walk_lst {H1 : Hp} {M1 : Mem} {O1 : Own} {a : Addr} {vs : List V} {ds : List D} (h : LstAt (Mut M1 O1) H1 a vs) (l : IsL X.K (Av B M1 O1) H1 vs ds) : WalkOk X B H1 M1 O1 (Itl X.K a) ds := by
  intro A U H fA sA s i
  have h' := h.step s
  have l' := l.step sA
  refine ⟨fun d hd => ?_, fun hle => ⟨vs, SqL.of h'.2, by rw [l'.length]; exact hle⟩⟩
  obtain ⟨v, hv, iv⟩ := l'.get hd
  refine ⟨⟨vs, v, SqL.of h'.2, hv⟩, fun x H' ⟨e1, e2⟩ => ?_⟩
  subst e1
  have e3 := e2 vs (SqL.of h'.2)
  rw [hv] at e3
  cases e3
  exact ⟨Same.refl _, iv⟩
theorem walk_tup {H1 : Hp} {M1 : Mem} {O1 : Own} {a : Addr} {vs : List V} {ds : List D} (h : TupAt X.K (Mut M1 O1) H1 a vs) (l : IsL X.K (Av B M1 O1) H1 vs ds) : WalkOk X B H1 M1 O1 (Itt X.K a) ds := by
  intro A U H fA sA s i
  have h' := h.step s
  have l' := l.step sA
  refine ⟨fun d hd => ?_, fun hle => ⟨vs, h'.sq, by rw [l'.length]; exact hle⟩⟩
  obtain ⟨v, hv, iv⟩ := l'.get hd
  refine ⟨⟨vs, v, h'.sq, hv⟩, fun x H' ⟨e1, e2⟩ => ?_⟩
  subst e1
  have e3 := e2 vs h'.sq
  rw [hv] at e3
  cases e3
  exact ⟨Same.refl _, iv⟩
theorem lst_mut {a : Addr} {vs : List V} (h : LstAt (Av B M O) H a vs) : LstAt (Mut M O) H a vs := ⟨fun z => h.1 (.inr z), h.2⟩
theorem tup_mut {a : Addr} {vs : List V} (h : TupAt X.K (Av B M O) H a vs) : TupAt X.K (Mut M O) H a vs := by
  rcases h with ⟨n, h⟩ | h
  · exact .inl ⟨fun z => n (.inr z), h⟩
  · exact .inr h
/-- the script -/
def giS (i : Nat) : GI := fun r M Q => match r.sl[i]? with
  | some (.s ns) => Q (ns.map D.int) M
  | _ => False
theorem di_scr (i : Nat) {x : Str} (hN : X.N[i]? = some x := by rfl) (hv : Vis X.env.scope x := by first | exact Or.inl rfl | exact Or.inr (Or.inl rfl) | exact Or.inr (Or.inr rfl)) (hd : (x == ("__debug__" : Str)) = false := by decide)
    (hcd : (x == ("__classdict__" : Str)) = false := by decide) : DI p X tg (.Name x pos) (giS i) where
  ex := ⟨_, pi_list (pe_var hN hv hd hcd), fun B E σ H r M O k R' R q hR => by
    unfold giS at q
    split at q
    · rename_i ns er
      obtain ⟨x, e1, a, e2, h⟩ := R.slot er
      subst e2
      refine ⟨_, e1, a, rfl, ⟨_, h.sq⟩, hR _ M H O _ q R Rl.refl ?_⟩
      intro A2 U2 H2 fA sA s j
      have h' := (h.step s).sq
      refine ⟨fun d hd => ?_, fun hle => ⟨_, h', by rw [List.length_map] at hle ⊢; exact hle⟩⟩
      obtain ⟨v, hv, iv⟩ := (IsL.ints (K := X.K) (A := A2) (H := H2) ns).get hd
      refine ⟨⟨_, v, h', hv⟩, fun x H' ⟨e1, e2⟩ => ?_⟩
      subst e1
      have e3 := e2 _ h'
      rw [hv] at e3
      cases e3
      exact ⟨Same.refl _, iv⟩
    · exact q.elim⟩
  mono := fun r M Q Q' h q => by
    unfold giS at q ⊢
    split at q
    · exact h _ _ q
    · exact q.elim
/-- range -/
def rngD (lo : Int) (n : Nat) : List D := (List.range n).map fun (i : Nat) => D.int (lo + i)
theorem rngD_get {lo : Int} {n i : Nat} {d : D} (h : (rngD lo n)[i]? = some d) : i < n ∧ d = .int (lo + i) := by
  unfold rngD at h
  rw [List.getElem?_map] at h
  cases q : (List.range n)[i]? with
  | none => rw [q] at h; cases h
  | some j =>
    rw [q] at h
    obtain ⟨h1, h2⟩ := List.getElem?_eq_some_iff.mp q
    rw [List.length_range] at h1
    rw [List.getElem_range] at h2
    subst h2
    have h : some (D.int (lo + (i : Nat))) = some d := h
    cases h
    exact ⟨h1, rfl⟩
theorem rngD_len (lo : Int) (n : Nat) : (rngD lo n).length = n := by unfold rngD; rw [List.length_map, List.length_range]
theorem walk_rng {H1 : Hp} {M1 : Mem} {O1 : Own} {lo : Int} {n : Nat} : WalkOk X B H1 M1 O1 (Itr lo n) (rngD lo n) := by
  intro A U H fA sA s i
  refine ⟨fun d hd => ?_, fun hle => by rw [rngD_len] at hle; exact hle⟩
  obtain ⟨h1, rfl⟩ := rngD_get hd
  refine ⟨h1, fun x H' ⟨e1, e2⟩ => ?_⟩
  subst e1; subst e2
  exact ⟨Same.refl _, .int _⟩
def giR1 (gs : GA) : GI := fun r M Q => gs r M fun ds M1 => match ds with
  | [.int j] => (-(2 ^ 62) ≤ j ∧ j < 2 ^ 62) ∧ Q (rngD 0 j.toNat) M1
  | _ => False
def giR2 (gs : GA) : GI := fun r M Q => gs r M fun ds M1 => match ds with
  | [.int i, .int j] => (-(2 ^ 62) ≤ i ∧ i < 2 ^ 62 ∧ -(2 ^ 62) ≤ j ∧ j < 2 ^ 62) ∧ Q (rngD i (j - i).toNat) M1
  | _ => False
theorem di_range1 {a : Expr} {pf : Pos} (hg : Gl X "range") (hm : X.mg "range" = none) (ha : DA w p X [a] gs) (hs : starEach [a] X.env = [(false, eval a X.env)] := by rfl) : DI p X tg (.Call (.Name "range" pf) [a] [] pos) (giR1 gs) where
  ex := ⟨_, pi_range1 hg hm ha.run hs, fun B E σ H r M O k R' R q hR => by
    refine ha.on R q fun ds M1 vs H1 O1 k1 R1 l1 i1 => ?_
    have i2 := isXL_weak i1
    split at k1
    · obtain ⟨v, rfl, iv⟩ := isXL1 i2
      rw [is1_int iv]
      exact ⟨_, rfl, k1.1.1, k1.1.2, hR _ M1 H1 O1 _ k1.2 R1 l1 walk_rng⟩
    · exact k1.elim⟩
  mono := fun r M Q Q' h q => ha.mono _ _ _ _ (fun d M1 q1 => by
    split at q1
    · exact ⟨q1.1, h _ _ q1.2⟩
    · exact q1.elim) q
def loopD (gt : GG) (gb : GS) : List D → GS
  | [] => fun D r M => D.nx r M
  | d :: ds => fun D r M => gt d r M fun r' M' => gb { D with nx := loopD gt gb ds D, ct := loopD gt gb ds D, bk := D.nx } r' M'
def gFor (gi : GI) (gt : GG) (gb : GS) : GS := fun D r M => gi r M fun ds M1 => loopD gt gb ds D r M1
theorem loopD_mono {gb : GS} (ht : ∀ d r M Q Q', (∀ r' M', Q r' M' → Q' r' M') → gt d r M Q → gt d r M Q') (hb : MonoS gb) : ∀ ds, MonoS (loopD gt gb ds)
  | [] => fun D D' r M l q => l.nx _ _ q
  | d :: ds => fun D D' r M l q => by
    have ih := loopD_mono ht hb ds
    exact ht d r M _ _ (fun r' M' q1 => hb { D with nx := loopD gt gb ds D, ct := loopD gt gb ds D, bk := D.nx } _ r' M' ⟨fun r2 M2 q2 => ih D D' r2 M2 l q2, l.rt, fun r2 M2 q2 => l.nx _ _ q2, fun r2 M2 q2 => ih D D' r2 M2 l q2⟩ q1) q
theorem ds_for {body : List Stmt} {gb : GS} {ws : List Nat} (hp : PassesOwn (model X.prog X.w) X.A X.env X.xe) (hc : X.calm = true) (hi : DI p X tg iter gi) (hg : DT' X tg ws gt) (hb : DSs X body gb)
    (hs : ∀ x, foldedSetIterable iter X.env x = pure x := by intro _; rfl) : DS X (.For tg iter body [] pos) (gFor gi gt gb) := by
  obtain ⟨wi, hpi, hwi⟩ := hi.ex
  refine ⟨psI (ps_for hp hc hpi hg.p.run hb.run hs) fun D σ H ⟨B, E, r, M, O, R, q⟩ => ?_, fun D D' r M l q => hi.mono _ _ _ _ (fun ds M1 q1 => loopD_mono hg.p.mono hb.mono ds D D' r M1 l q1) q⟩
  refine hwi B E σ H r M O _ _ R q fun ds M1 H1 O1 J k1 R1 _ W1 => ?_
  refine ⟨fun i m σ' H' => i + m = ds.length ∧ ∃ r' M' O', Rep X B (E.now H1 M1 O1) σ' H' r' M' O' ∧ loopD gt gb (ds.drop i) (LS X B E D) r' M',
    ⟨ds.length, by omega, r, M1, O1, R1.now, by rw [List.drop_zero]; exact k1⟩, fun i m σ' H' ⟨him, r', M', O', R', q'⟩ => ?_⟩
  obtain ⟨w1, w2⟩ := W1 (Av B M' O') _ H' (fun b h => R'.m.fresh h) (av_step R'.ent) R'.ent i
  by_cases hlt : i < ds.length
  · right
    obtain ⟨d, hd⟩ : ∃ d, ds[i]? = some d := ⟨_, List.getElem?_eq_getElem hlt⟩
    obtain ⟨go, yl⟩ := w1 d hd
    have hdrop : ds.drop i = d :: ds.drop (i + 1) := by
      rw [List.drop_eq_getElem_cons hlt]
      rw [List.getElem?_eq_getElem hlt] at hd
      cases hd
      rfl
    rw [hdrop] at q'
    refine ⟨go, fun σ2 H2 => ∃ r2 M2 O2, Rep X B (E.now H1 M1 O1) σ2 H2 r2 M2 O2 ∧ loopD gt gb (ds.drop (i + 1)) (LS X B E D) r2 M2, fun σ2 H2 h2 => ⟨m - 1, by omega, by omega, h2⟩, fun x H2 hy => ?_⟩
    obtain ⟨sm, ix⟩ := yl x H2 hy
    have R2 := R'.same sm
    refine ⟨B, E.now H1 M1 O1, r', M', O', d, R2, ix, ?_⟩
    refine hg.p.mono _ _ _ _ _ (fun r3 M3 q3 => ?_) (hg.s _ _ _ _ q')
    obtain ⟨⟨e3, _⟩, q3⟩ := q3
    subst e3
    refine ⟨rfl, fun σ3 _ R3 => ⟨B, E.now H1 M1 O1, r3, M3, O', R3, ?_⟩⟩
    refine hb.mono { LS X B E D with nx := loopD gt gb (ds.drop (i + 1)) (LS X B E D), ct := loopD gt gb (ds.drop (i + 1)) (LS X B E D), bk := (LS X B E D).nx } _ _ _ ⟨fun r4 M4 q4 σ4 H4 O4 R4 => ⟨r4, M4, O4, R4, q4⟩, fun d4 M4 q4 v4 H4 O4 h4 s4 i4 => q4 v4 H4 O4 h4 (R1.ent.trans s4) i4, fun r4 M4 q4 σ4 H4 O4 R4 => q4 σ4 H4 O4 (R1.then R4), fun r4 M4 q4 σ4 H4 O4 R4 => ⟨r4, M4, O4, R4, q4⟩⟩ q3
  · left
    have hn : ds.drop i = [] := List.drop_eq_nil_of_le (by omega)
    rw [hn] at q'
    exact ⟨w2 (by omega), q' σ' H' O' (R1.then R')⟩
def gWhile (gc : GT) (gb : GS) : GS := fun D r M => ∃ W : Nat → Fr → Mem → Prop, (∃ m, W m r M) ∧ ∀ m r M, W m r M →
  gc r M fun b M1 => if b = true then gb { D with nx := fun r' M' => ∃ m', m' < m ∧ W m' r' M', ct := fun r' M' => ∃ m', m' < m ∧ W m' r' M', bk := D.nx } r M1 else D.nx r M1
theorem ds_while {c : Expr} {body : List Stmt} {gc : GT} {gb : GS} (hp : PassesOwn (model X.prog X.w) X.A X.env X.xe) (hc : DT p X c gc) (hb : DSs X body gb) : DS X (.While c body [] pos) (gWhile gc gb) := by
  refine ⟨psI (ps_while hp hc.run hb.run) fun D σ H ⟨B, E, r, M, O, R, W, ⟨m0, w0⟩, turn⟩ => ?_, fun D D' r M l ⟨W, w0, turn⟩ => ⟨W, w0, fun m r M w => hc.mono _ _ _ _ (fun b M1 q1 => ?_) (turn m r M w)⟩⟩
  · refine ⟨fun m σ' H' => ∃ r' M' O', Rep X B E σ' H' r' M' O' ∧ W m r' M', ⟨m0, r, M, O, R, w0⟩, fun m σ' H' ⟨r', M', O', R', w'⟩ => ?_⟩
    refine hc.on R' (turn m r' M' w') fun b M1 H1 O1 k1 R1 l1 => ?_
    cases b with
    | true =>
      rw [if_pos rfl] at k1 ⊢
      refine ⟨fun σ2 H2 => ∃ m', m' < m ∧ ∃ r2 M2 O2, Rep X B E σ2 H2 r2 M2 O2 ∧ W m' r2 M2, fun σ2 H2 h => h, B, E, r', M1, O1, R1, ?_⟩
      refine hb.mono { LS X B E D with nx := fun r' M' => ∃ m', m' < m ∧ W m' r' M', ct := fun r' M' => ∃ m', m' < m ∧ W m' r' M', bk := (LS X B E D).nx } _ _ _ ⟨fun r2 M2 ⟨m', h1, h2⟩ σ2 H2 O2 R2 => ⟨m', h1, r2, M2, O2, R2, h2⟩, fun _ _ q => q, fun r2 M2 q2 σ2 H2 O2 R2 => q2 σ2 H2 O2 R2, fun r2 M2 ⟨m', h1, h2⟩ σ2 H2 O2 R2 => ⟨m', h1, r2, M2, O2, R2, h2⟩⟩ k1
    | false =>
      rw [if_neg Bool.false_ne_true] at k1 ⊢
      exact k1 σ' H1 O1 R1
  · cases b with
    | true =>
      rw [if_pos rfl] at q1 ⊢
      exact hb.mono { D with nx := fun r' M' => ∃ m', m' < m ∧ W m' r' M', ct := fun r' M' => ∃ m', m' < m ∧ W m' r' M', bk := D.nx } _ _ _ ⟨fun _ _ q => q, l.rt, fun r2 M2 q2 => l.nx _ _ q2, fun _ _ q => q⟩ q1
    | false =>
      rw [if_neg Bool.false_ne_true] at q1 ⊢
      exact l.nx _ _ q1
end
end DL
set_option Elab.async false
set_option linter.all false
set_option maxRecDepth 100000
namespace DL
open PySem PySem.Spec PyProof.Rows L2
def wipeS (sl : List Sl) : List Nat → List Sl
  | [] => sl
  | v :: vs => (wipeS sl vs).set v .n
theorem wipeS_len (sl : List Sl) : ∀ vs, (wipeS sl vs).length = sl.length
  | [] => rfl
  | v :: vs => by unfold wipeS; rw [List.length_set, wipeS_len sl vs]
theorem wipeS_get {sl : List Sl} {j : Nat} {s : Sl} : ∀ {vs : List Nat}, (wipeS sl vs)[j]? = some s → s = .n ∨ (j ∉ vs ∧ sl[j]? = some s)
  | [], h => .inr ⟨by simp, h⟩
  | v :: vs, h => by
    unfold wipeS at h
    by_cases hj : v = j
    · subst hj
      by_cases hv : v < (wipeS sl vs).length
      · rw [List.getElem?_set_self hv] at h
        cases h
        exact .inl rfl
      · rw [List.getElem?_eq_none (by simpa using hv)] at h
        cases h
    · rw [List.getElem?_set_ne hj] at h
      rcases wipeS_get h with h | ⟨h1, h2⟩
      · exact .inl h
      · exact .inr ⟨by simp only [List.mem_cons, not_or]; exact ⟨fun e => hj e.symm, h1⟩, h2⟩
theorem wipeS_out {sl : List Sl} {j : Nat} : ∀ {vs : List Nat}, j ∉ vs → (wipeS sl vs)[j]? = sl[j]?
  | [], _ => rfl
  | v :: vs, h => by
    unfold wipeS
    rw [List.getElem?_set_ne (fun e => h (by simp [e])), wipeS_out fun z => h (List.mem_cons_of_mem _ z)]
theorem wipe_out {σ : L2.St} {j : Nat} : ∀ {vs : List Nat}, j ∉ vs → (wipe σ vs)[j]? = σ[j]?
  | [], _ => rfl
  | v :: vs, h => by
    unfold wipe
    rw [List.getElem?_set_ne (fun e => h (by simp [e])), wipe_out fun z => h (List.mem_cons_of_mem _ z)]
theorem wipe_in {σ : L2.St} {j : Nat} (hj : j < σ.length) : ∀ {vs : List Nat}, j ∈ vs → (wipe σ vs)[j]? = some none
  | v :: vs, h => by
    unfold wipe
    by_cases hv : v = j
    · subst hv
      rw [List.getElem?_set_self (by rw [wipe_length]; exact hj)]
    · rw [List.getElem?_set_ne hv]
      exact wipe_in hj ((List.mem_cons.mp h).resolve_left fun e => hv e.symm)
theorem wipe_same {σ σ' : L2.St} {ws vs : List Nat} (o : Out ws (wipe σ vs) σ') (h : ∀ j ∈ ws, j ∈ vs) : wipe σ' vs = wipe σ vs := by
  apply List.ext_getElem?
  intro j
  by_cases hj : j ∈ vs
  · by_cases hl : j < σ.length
    · rw [wipe_in hl hj, wipe_in (by rw [o.1, wipe_length]; exact hl) hj]
    · rw [List.getElem?_eq_none (by rw [wipe_length, o.1, wipe_length]; omega), List.getElem?_eq_none (by rw [wipe_length]; omega)]
  · rw [wipe_out hj, o.2 j fun z => hj (h j z)]
def wipeF (r : Fr) (vs : List Nat) : Fr := ⟨wipeS r.sl vs, fun _ _ => False⟩
def noOwn (r : Fr) (vs : List Nat) : Bool := vs.all fun j => match r.sl[j]? with
  | some (.o _) => false
  | _ => true
def En.blk (H : Hp) (M : Mem) (O : Own) : En := ⟨fun _ => False, H, Mut M O, fun _ _ => False, fun _ _ => False⟩
theorem pass_no {X : Cx} : Takes X (fun cls d _ H => xk (fun _ _ => False) cls d H) := fun u s' h => by
  obtain ⟨_, _, _, _, _, _, _, _, _, _, _, _, _, _, _, _, z⟩ := h
  obtain ⟨_, _, _, z⟩ := z
  exact z.elim
section
variable {X X' : Cx} {w p : Bool} {e t iter tg : Expr} {es : List Expr} {g ga ge : GE} {gf : GF} {gs : GA} {gt : GG} {gi : GI} {gtt : GT} {B : Addr → Prop} {E : En} {σ : L2.St} {H H' : Hp} {r : Fr} {M : Mem} {O : Own} {pos : Pos}
theorem New.blk {a : Addr} (hK : X'.K = X.K) (N : New X B E σ H r M O a) (vs : List Nat) : Rep X' (Bp B a) (En.blk H M O) (wipe σ vs) H (wipeF r vs) M O := by
  refine ⟨by rw [hK]; exact N.m, by show (wipe σ vs).length = (wipeS r.sl vs).length; rw [wipe_length, wipeS_len]; exact N.len, fun i s e => ?_, Step.refl _ _, fun _ z => z.elim, fun _ _ _ _ _ _ z => z.elim, pass_no, rfl⟩
  rcases wipeS_get e with rfl | ⟨hi, e⟩
  · trivial
  · rw [wipe_out hi, hK]
    have q := N.sl i s e
    rw [← av_up] at q
    exact q.stepS (Step.refl _ _) step_dn fun l q => ⟨q, fun _ e => e⟩
def lcD (gt : GG) (gtt : GT) (ge : GE) (r : Fr) : List D → List D → Mem → (List D → Mem → Prop) → Prop
  | [], acc, M, Q => Q acc M
  | d :: ds, acc, M, Q => gt d r M fun r1 M1 => gtt r1 M1 fun b M2 => if b = true then ge r1 M2 fun x M3 => acc.length < sizeLine ∧ lcD gt gtt ge r ds (acc ++ [x]) M3 Q else lcD gt gtt ge r ds acc M2 Q
theorem lcD_mono (ht : ∀ d r M Q Q', (∀ r' M', Q r' M' → Q' r' M') → gt d r M Q → gt d r M Q') (htt : ∀ r M Q Q', (∀ d M', Q d M' → Q' d M') → gtt r M Q → gtt r M Q') (he : ∀ r M Q Q', (∀ d M', Q d M' → Q' d M') → ge r M Q → ge r M Q') :
    ∀ ds acc M Q Q', (∀ a M', Q a M' → Q' a M') → lcD gt gtt ge r ds acc M Q → lcD gt gtt ge r ds acc M Q'
  | [], acc, M, Q, Q', h, q => h _ _ q
  | d :: ds, acc, M, Q, Q', h, q => ht _ _ _ _ _ (fun r1 M1 q1 => htt _ _ _ _ (fun b M2 q2 => by
      cases b with
      | true =>
        rw [if_pos rfl] at q2 ⊢
        exact he _ _ _ _ (fun x M3 q3 => ⟨q3.1, lcD_mono ht htt he ds _ _ _ _ h q3.2⟩) q2
      | false =>
        rw [if_neg Bool.false_ne_true] at q2 ⊢
        exact lcD_mono ht htt he ds _ _ _ _ h q2) q1) q
def gLc (gi : GI) (gt : GG) (gtt : GT) (ge : GE) (vs : List Nat) : GF := fun r M Q => noOwn r vs = true ∧ gi r M fun ds M1 => lcD gt gtt ge (wipeF r vs) ds [] M1 fun acc M2 => Q (.lst acc) M2
/-- the tests of a comprehension -/
structure DTts (p : Bool) (X : Cx) (ifs : List Expr) (g : GT) : Prop where
  run : PTs X ifs (fun σ H Q => ∃ B E r M O, Rep X B E σ H r M O ∧ g r M (LT p X B E σ r H M O Q))
  mono : ∀ r M Q Q', (∀ d M', Q d M' → Q' d M') → g r M Q → g r M Q'
def gYes : GT := fun _ M Q => Q true M
theorem dtts_nil : DTts p X [] gYes := ⟨⟨fun pins s σ H Q I ⟨B, E, r, M, O, R, q⟩ => pts_nil.run pins s σ H Q I (q H O R Rl.refl)⟩, fun _ _ _ _ h q => h _ _ q⟩
theorem DTts.on {ifs : List Expr} {gt : GT} (ha : DTts p X ifs gt) (R : Rep X B E σ H r M O) {k : Bool → Mem → Prop} (h : gt r M k) {Q : Bool → Hp → Prop}
    (hk : ∀ d M1 H1 O1, k d M1 → Rep X B E σ H1 r M1 O1 → Rl p M O H M1 O1 H1 → Q d H1) :
    ∃ B E r M O, Rep X B E σ H r M O ∧ gt r M (LT p X B E σ r H M O Q) :=
  ⟨B, E, r, M, O, R, ha.mono r M _ _ (fun d M1 h1 H1 O1 R1 l1 => hk d M1 H1 O1 h1 R1 l1) h⟩
/-- behind a turn: the slots as they were -/
theorem New.turn {a : Addr} (hK : X'.K = X.K) (N : New X B E σ H r M O a) {vs ws : List Nat} (hws : ∀ j ∈ ws, j ∈ vs) (hno : noOwn r vs = true) {σ2 : L2.St} {r2 : Fr} {E2 : En} {M' : Mem} {O' : Own} (o : Out ws (wipe σ vs) σ2) (f : ∀ j, j ∉ ws → r2.sl[j]? = (wipeF r vs).sl[j]?)
    (l : Rl p M O H M' O' H') (R : Rep X' (Bp B a) E2 σ2 H' r2 M' O') (ha : H a ≠ none) : New X B E σ H' r M' O' a := by
  have nav : ¬ Av B M' O' a := fun z => by
    rcases z with z | z
    · exact N.nav (.inl z)
    · cases e : H a with
      | none => exact ha e
      | some o => exact (l.2 a o e fun q => N.nav (.inr q)).2 z
  have sA : Step (Up (Av B M O) a) H (Up (Av B M' O') a) H' := step_up l.avs
  have sU : Step (Up (Mut M O) a) H (Up (Mut M' O') a) H' := step_up l.2
  refine ⟨by rw [← hK]; exact R.m, N.len, fun i sl e => ?_, N.ent.trans sU, N.sub, N.exc, N.lk, N.xe, nav⟩
  have q := N.sl i sl e
  cases sl with
  | n => trivial
  | v d =>
    obtain ⟨v, e1, e2⟩ := q
    exact ⟨v, e1, e2.step sA⟩
  | o m =>
    have hi : i ∉ vs := fun z => by
      have h := List.all_eq_true.mp hno i z
      rw [e] at h
      cases h
    have hi' : i ∉ ws := fun z => hi (hws i z)
    have e2 : r2.sl[i]? = some (.o m) := by
      rw [f i hi']
      show (wipeS r.sl vs)[i]? = _
      rw [wipeS_out hi]; exact e
    have q2 : SlU X'.K (Av (Bp B a) M' O') (Mut M' O') O' H' i ((σ2[i]?).getD none) (.o m) := R.sl i _ e2
    rw [o.2 i hi', wipe_out hi, hK, av_up] at q2
    exact q2
  | b k ds =>
    obtain ⟨a, vs, e1, e2, e3⟩ := q
    exact ⟨a, vs, e1, e2.step sU, e3.step sA⟩
  | s ns =>
    obtain ⟨a, e1, e2⟩ := q
    exact ⟨a, e1, e2.step sU⟩
  | f l => exact ⟨q.1, q.2.trans sA⟩
theorem Rl.put {a : Addr} {H1 : Hp} {M1 : Mem} {O1 : Own} {u : HO} (l : Rl p M1 O1 H1 M O H) (n : H1 a = none) : Rl p M1 O1 H1 M O (upd H a u) :=
  ⟨fun e => by
    obtain ⟨h1, h2, h3⟩ := l.1 e
    exact ⟨h1, h2, fun b o e => by rw [upd_ne (ne_of_none e n)]; exact h3 b o e⟩,
  fun b o e nb => by
    obtain ⟨h1, h2⟩ := l.2 b o e nb
    exact ⟨by rw [upd_ne (ne_of_none e n)]; exact h1, h2⟩⟩
/-- the new list grows: nobody stands on it -/
theorem New.put {a : Addr} (N : New X B E σ H r M O a) (ha : H a ≠ none) {u : HO} : New X B E σ (upd H a u) r M O a := by
  have s : ∀ {A : Addr → Prop}, Step (Up A a) H (Up A a) (upd H a u) := fun {A} b o e n => ⟨by rw [upd_ne (fun z => n (.inr z))]; exact e, n⟩
  have nO : O a = none := by
    cases e : O a with
    | none => rfl
    | some w => exact (N.nav (.inr (.inr (by rw [e]; simp)))).elim
  have nM : M a = none := by
    cases e : M a with
    | none => rfl
    | some w => exact (N.nav (.inr (.inl (by rw [e]; simp)))).elim
  have keep : ∀ {b : Addr} {o : HO}, b ≠ a → H b = some o → upd H a u b = some o := fun {b o} h e => by rw [upd_ne h]; exact e
  have nn : ∀ {b : Addr}, H b ≠ none → upd H a u b ≠ none := fun {b} h => by
    by_cases hb : b = a
    · subst hb; rw [upd_same]; exact fun z => nomatch z
    · rw [upd_ne hb]; exact h
  refine ⟨⟨fun b mo e => ?_, fun b w e => ?_, fun b z => nn (N.m.btr b z)⟩, N.len, fun i sl e => (N.sl i sl e).stepS s s fun l q => ⟨q, fun o e => keep (fun z => ?_) e⟩, N.ent.trans s, N.sub, N.exc, N.lk, N.xe, N.nav⟩
  · obtain ⟨h1, h2, h3⟩ := N.m.mem b mo e
    refine ⟨h1, h2, ?_⟩
    rw [av_up] at h3 ⊢
    exact h3.stepS s (fun o e' => keep (fun z => by subst z; rw [nM] at e; cases e) e') fun l f q => ⟨q, fun o e => keep (fun z => by subst z; rw [nO] at q; cases q) e⟩
  · exact ⟨(N.m.own b w e).1, nn (N.m.own b w e).2⟩
  · subst z
    rw [nO] at q
    cases q
/-- the same, whatever the context's exceptions: none are let out -/
structure RepK (K : PySem.W.Frag) (B : Addr → Prop) (E : En) (σ : L2.St) (H : Hp) (r : Fr) (M : Mem) (O : Own) : Prop where
  m : MemOk K B H M O
  len : σ.length = r.sl.length
  sl : ∀ i s, r.sl[i]? = some s → SlOk K B H M O i ((σ[i]?).getD none) s
  ent : Step E.U E.H (Mut M O) H
  sub : ∀ b, E.B b → B b
  xe : r.ex = E.X
  no : E.X = (fun _ _ => False) ∧ E.W = (fun _ _ => False)
theorem RepK.rep (R : RepK X'.K B E σ H r M O) : Rep X' B E σ H r M O :=
  ⟨R.m, R.len, R.sl, R.ent, R.sub, fun C M' H' O' _ _ z => by rw [R.no.1] at z; exact z.elim, by rw [R.no.2]; exact pass_no, R.xe⟩
theorem Rep.k (R : Rep X' B E σ H r M O) (h : E.X = (fun _ _ => False) ∧ E.W = (fun _ _ => False)) : RepK X'.K B E σ H r M O := ⟨R.m, R.len, R.sl, R.ent, R.sub, R.xe, h⟩
def uE (p : Bool) (K : PySem.W.Frag) (g : GE) : TE := fun σ H Q => ∃ B E r M O, RepK K B E σ H r M O ∧ g r M fun d M' => ∀ v H' O', RepK K B E σ H' r M' O' → Rl p M O H M' O' H' → Is K (Av B M' O') H' v d → Q v H'
def uT (p : Bool) (K : PySem.W.Frag) (g : GT) : TT := fun σ H Q => ∃ B E r M O, RepK K B E σ H r M O ∧ g r M fun d M' => ∀ H' O', RepK K B E σ H' r M' O' → Rl p M O H M' O' H' → Q d H'
def uG (K : PySem.W.Frag) (ws : List Nat) (g : GG) : TG := fun v σ H Q => ∃ B E r M O d, RepK K B E σ H r M O ∧ Is K (Av B M O) H v d ∧ g d r M fun r' M' => (M' = M ∧ ∀ j, j ∉ ws → r'.sl[j]? = r.sl[j]?) ∧ ∀ σ', Out ws σ σ' → RepK K B E σ' H r' M O → Q σ' H
theorem DE.u (h : DE true p X' e ge) : PE X' e (uE p X'.K ge) := peI h.run fun σ H Q ⟨B, E, r, M, O, R, q⟩ =>
  h.on R.rep q fun d M1 v H1 O1 k1 R1 l1 i1 => k1 v H1 O1 (R1.k R.no) l1 i1
theorem DTts.u {ifs : List Expr} (h : DTts p X' ifs gtt) : PTs X' ifs (uT p X'.K gtt) := ⟨fun pins s σ H Q I ⟨B, E, r, M, O, R, q⟩ => h.run.run pins s σ H Q I
  (h.on R.rep q fun d M1 H1 O1 k1 R1 l1 => k1 H1 O1 (R1.k R.no) l1)⟩
theorem DT'.u {ws : List Nat} (h : DT' X' tg ws gt) : PG X' tg (uG X'.K ws gt) := pgI h.p.run fun v σ H Q ⟨B, E, r, M, O, d, R, i1, q⟩ =>
  ⟨B, E, r, M, O, d, R.rep, i1, h.p.mono _ _ _ (fun r' M' => (M' = M ∧ ∀ j, j ∉ ws → r'.sl[j]? = r.sl[j]?) ∧ ∀ σ', Out ws σ σ' → RepK X'.K B E σ' H r' M O → Q σ' H) _ (fun r' M' q1 => ⟨q1.1.1, fun σ' o R' => q1.2 σ' o (R'.k R.no)⟩) q⟩
theorem New.same {a : Addr} (N : New X B E σ H r M O a) (s : Same H H') : New X B E σ H' r M O a :=
  ⟨N.m.same s, N.len, fun i sl e => (N.sl i sl e).stepS (step_same s fun _ z => z) (step_same s fun _ z => z) fun l q => ⟨q, s l⟩, N.ent.trans (step_same s fun _ z => z), N.sub, N.exc, N.lk, N.xe, N.nav⟩
theorem lc_imp {ws vs : List Nat} {wi : TI} (hwi : ∀ B E σ H r M O k R', Rep X B E σ H r M O → gi r M k → (∀ ds M1 H1 O1 J, k ds M1 → Rep X B E σ H1 r M1 O1 → Rl p M O H M1 O1 H1 → WalkQ p X B H1 M1 O1 J ds → R' J H1) → wi σ H R')
    (hgm : ∀ d r M Q Q', (∀ r' M', Q r' M' → Q' r' M') → gt d r M Q → gt d r M Q') (htm : ∀ r M Q Q', (∀ d M', Q d M' → Q' d M') → gtt r M Q → gtt r M Q') (hem : ∀ r M Q Q', (∀ d M', Q d M' → Q' d M') → ge r M Q → ge r M Q') (hgs : SameM ws gt)
    (hws : ∀ j ∈ ws, j ∈ vs) (σ : L2.St) (H : Hp) (Q : VK) (hh : ∃ B E r M O, Rep X B E σ H r M O ∧ gLc gi gt gtt ge vs r M (fun m M' => ∀ a H' O', New X B E σ H' r M' O' a → Rl p M O H M' O' H' → OOk X.K (Up (Av B M' O') a) H' a m → Q (.ref a) H')) :
    tLc wi (uG X.K ws gt) (uT p X.K gtt) (uE p X.K ge) vs σ H Q := by
  obtain ⟨B, E, r, M, O, R, hno, q⟩ := hh
  refine hwi B E σ H r M O _ _ R q fun ds M1 H1 O1 J k1 R1 l1 W1 => ?_
  intro a n
  refine ⟨fun i m H2 => i + m = ds.length ∧ ∃ M2 O2 acc vs', New X B E σ H2 r M2 O2 a ∧ H2 a = some (.lst vs') ∧ IsL X.K (Up (Av B M2 O2) a) H2 vs' acc ∧ Rl p M1 O1 H1 M2 O2 H2 ∧ lcD gt gtt ge (wipeF r vs) (ds.drop i) acc M2 (fun acc' M' =>
      ∀ a' H' O', New X B E σ H' r M' O' a' → Rl p M O H M' O' H' → OOk X.K (Up (Av B M' O') a') H' a' (.lst acc') → Q (.ref a') H'),
    ⟨ds.length, by omega, M1, O1, [], [], New.of R1 n, upd_same, .nil, Rl.of_same (same_upd n), by rw [List.drop_zero]; exact k1⟩, fun i m H2 ⟨him, M2, O2, acc, vs', N2, e2, i2, l2, q2⟩ => ?_⟩
  obtain ⟨w1, w2⟩ := W1 (Up (Av B M2 O2) a) _ H2 (fun b h => by rw [← av_up]; exact N2.m.fresh h) (fun b o e nb => by
    obtain ⟨h1, h2⟩ := l2.avs b o e nb
    exact ⟨h1, fun z => z.elim h2 fun z => (ne_of_none e n) z⟩) l2.2 (fun e => (l2.1 e).2.2) i
  by_cases hlt : i < ds.length
  · right
    obtain ⟨d, hd⟩ : ∃ d, ds[i]? = some d := ⟨_, List.getElem?_eq_getElem hlt⟩
    obtain ⟨go, yl⟩ := w1 d hd
    have hdrop : ds.drop i = d :: ds.drop (i + 1) := by
      rw [List.drop_eq_getElem_cons hlt]
      rw [List.getElem?_eq_getElem hlt] at hd
      cases hd
      rfl
    rw [hdrop] at q2
    have ha2 : H2 a ≠ none := by rw [e2]; exact fun z => nomatch z
    refine ⟨go, fun H3 => ∃ M2 O2 acc vs', New X B E σ H3 r M2 O2 a ∧ H3 a = some (.lst vs') ∧ IsL X.K (Up (Av B M2 O2) a) H3 vs' acc ∧ Rl p M1 O1 H1 M2 O2 H3 ∧ lcD gt gtt ge (wipeF r vs) (ds.drop (i + 1)) acc M2 (fun acc' M' =>
      ∀ a' H' O', New X B E σ H' r M' O' a' → Rl p M O H M' O' H' → OOk X.K (Up (Av B M' O') a') H' a' (.lst acc') → Q (.ref a') H'), fun H3 h3 => ⟨m - 1, by omega, by omega, h3⟩, fun x H3 hy => ?_⟩
    obtain ⟨sm, ix⟩ := yl x H3 hy
    -- the state at the turn's begin
    have N3 : New X B E σ H3 r M2 O2 a := N2.same sm
    have R3 : RepK X.K (Bp B a) (En.blk H3 M2 O2) (wipe σ vs) H3 (wipeF r vs) M2 O2 := (New.blk (X' := X) rfl N3 vs).k ⟨rfl, rfl⟩
    have e3 : H3 a = some (.lst vs') := sm _ _ e2
    have ha3 : H3 a ≠ none := by rw [e3]; exact fun z => nomatch z
    have i3 : IsL X.K (Up (Av B M2 O2) a) H3 vs' acc := i2.step (step_same sm fun _ z => z)
    have l3 : Rl p M1 O1 H1 M2 O2 H3 := l2.trans (Rl.of_same sm)
    have na : ¬ Mut M2 O2 a := fun z => N3.nav (.inr z)
    refine ⟨Bp B a, En.blk H3 M2 O2, wipeF r vs, M2, O2, d, R3, by rw [av_up]; exact ix, ?_⟩
    refine hgm _ _ _ _ _ (fun r4 M4 q4 => ?_) (hgs _ _ _ _ q2)
    obtain ⟨⟨e4, f4⟩, q4⟩ := q4
    subst e4
    refine ⟨⟨rfl, f4⟩, fun σ4 o4 R4 => ⟨wipe_same o4 hws, Bp B a, En.blk H3 M4 O2, r4, M4, O2, R4, ?_⟩⟩
    refine htm _ _ _ _ (fun b M5 q5 H5 O5 R5 l5 => ?_) q4
    have N5 : New X B E σ H5 r M5 O5 a := N3.turn (X' := X) rfl hws hno o4 f4 l5 R5.rep ha3
    have e5 : H5 a = some (.lst vs') := (l5.2 a _ e3 na).1
    have i5 : IsL X.K (Up (Av B M5 O5) a) H5 vs' acc := i3.step (step_up l5.avs)
    cases b with
    | false =>
      rw [if_neg Bool.false_ne_true] at q5
      refine iteF ?_
      exact ⟨M5, O5, acc, vs', N5, e5, i5, l3.trans l5, q5⟩
    | true =>
      rw [if_pos rfl] at q5
      refine iteT ?_
      refine ⟨Bp B a, En.blk H3 M4 O2, r4, M5, O5, R5, ?_⟩
      refine hem _ _ _ _ (fun y M6 q6 v6 H6 O6 R6 l6 i6 => ?_) q5
      have l56 := l5.trans l6
      have N6 : New X B E σ H6 r M6 O6 a := N3.turn (X' := X) rfl hws hno o4 f4 l56 R6.rep ha3
      have e6 : H6 a = some (.lst vs') := (l56.2 a _ e3 na).1
      have i6' : IsL X.K (Up (Av B M6 O6) a) H6 vs' acc := i3.step (step_up l56.avs)
      have ha6 : H6 a ≠ none := by rw [e6]; exact fun z => nomatch z
      rw [av_up] at i6
      refine ⟨vs', e6, by rw [i6'.length]; exact q6.1, M6, O6, acc ++ [y], vs' ++ [v6], N6.put ha6, upd_same, ?_, (l3.trans l56).put n, q6.2⟩
      have s : Step (Up (Av B M6 O6) a) H6 (Up (Av B M6 O6) a) (upd H6 a (.lst (vs' ++ [v6]))) := fun b o e nb => ⟨by rw [upd_ne (fun z => nb (.inr z))]; exact e, nb⟩
      exact (i6'.append (.cons i6 .nil)).step s
  · left
    have hn : ds.drop i = [] := List.drop_eq_nil_of_le (by omega)
    rw [hn] at q2
    exact ⟨w2 (by omega), q2 a H2 O2 N2 (l1.trans l2) ⟨vs', e2, i2⟩⟩
theorem df_lc {elt : Expr} {ifs : List Expr} {scope : Scope} {own : List (Str × Nat)} {ws : List Nat} (hc : X.calm = true) (hN : X.N.Nodup) (hi : DI p X tg iter gi) (ok : BlkOk X.N X.env.scope scope own)
    (hg : ∀ (s : Shared) (H : Hp) (C : Addr) (cl : List (Str × Addr)) (fp : List Addr), DT' (X.blk s H scope (compEnvC scope cl C X.env) fp) tg ws gt)
    (ht : ∀ (s : Shared) (H : Hp) (C : Addr) (cl : List (Str × Addr)) (fp : List Addr), DTts p (X.blk s H scope (compEnvC scope cl C X.env) fp) ifs gtt)
    (he : ∀ (s : Shared) (H : Hp) (C : Addr) (cl : List (Str × Addr)) (fp : List Addr), DE true p (X.blk s H scope (compEnvC scope cl C X.env) fp) elt ge)
    (hgm : ∀ d r M Q Q', (∀ r' M', Q r' M' → Q' r' M') → gt d r M Q → gt d r M Q') (htm : ∀ r M Q Q', (∀ d M', Q d M' → Q' d M') → gtt r M Q → gtt r M Q') (hem : ∀ r M Q Q', (∀ d M', Q d M' → Q' d M') → ge r M Q → ge r M Q') (hgs : SameM ws gt)
    (hws : ∀ j ∈ ws, j ∈ own.map (·.2)) (hs : ∀ x, foldedSetIterable iter X.env x = pure x := by intro _; rfl) : DF p X (.ListComp elt [⟨tg, iter, ifs, 0⟩] scope pos) (gLc gi gt gtt ge (own.map (·.2))) := by
  obtain ⟨wi, hpi, hwi⟩ := hi.ex
  exact ⟨peI (pe_lc (te := uE p X.K ge) (tt := uT p X.K gtt) (g := uG X.K ws gt) hc hN hpi ok (fun s H C cl fp => (hg s H C cl fp).u) (fun s H C cl fp => (ht s H C cl fp).u) (fun s H C cl fp => (he s H C cl fp).u) hs) (lc_imp (fun B E σ H r M O k R' R q hR => hwi B E σ H r M O k R' R q fun ds M1 H1 O1 J k1 R1 l1 W => hR ds M1 H1 O1 J k1 R1 l1 W.q) hgm htm hem hgs hws),
    fun r M Q Q' h q => ⟨q.1, hi.mono _ _ _ _ (fun ds M1 q1 => lcD_mono hgm htm hem ds _ _ _ _ (fun a M' q2 => h _ _ q2) q1) q.2⟩⟩
end
end DL
set_option Elab.async false
set_option linter.all false
set_option maxRecDepth 100000
namespace DL
open PySem PySem.Spec PyProof.Rows L2
structure FnG (P : Program) (w : World) (K : PySem.W.Frag) (mg : Str → Option Value) (base : Heap) (k : Nat) (f : Addr) (fd : FuncData) (ps : List Str) (sp : Sp) : Prop where
  len : ∀ vs H Q E, sp vs H Q E → vs.length = ps.length
  run : ∀ (A : Around) (outer : List Env) (s : Shared) (H : Hp) (args : Args) (us : List Value) (vs : List V) (Q : VK) (E : XK), Room k A → A.guards = some [] → Env0 P w K mg base A outer s H → BindsTo s fd args (ps.zip us) →
    Vals vs us → sp vs H Q E → codeAny (model P w) A (.call (.ref f) args) (CR (L2.CX P w) outer P w H s Q E) s
section
variable {P : Program} {w : World} {K : PySem.W.Frag} {mg : Str → Option Value} {base : Heap} {j k : Nat} {f : Addr} {fd : FuncData} {ps : List Str} {sp sp' : Sp}
theorem FnG.mono (F : FnG P w K mg base j f fd ps sp) (h : j ≤ k) : FnG P w K mg base k f fd ps sp :=
  ⟨F.len, fun A outer s H args us vs Q E hr => F.run A outer s H args us vs Q E (hr.mono h)⟩
theorem FnG.imp (F : FnG P w K mg base k f fd ps sp) (h : ∀ vs H Q E, sp' vs H Q E → sp vs H Q E) : FnG P w K mg base k f fd ps sp' :=
  ⟨fun vs H Q E q => F.len vs H Q E (h _ _ _ _ q), fun A outer s H args us vs Q E hr hg he hb hv hs => F.run A outer s H args us vs Q E hr hg he hb hv (h _ _ _ _ hs)⟩
theorem fng_of {name qual : Str} {params : Arguments} {body : List Stmt} {scope : Scope} {dV kV doc pm cdv ct oc : Value} {an od : Option Addr} {osl : Array (Option Value)} {N : List Str}
    (lk : K.lookup f = some ⟨oc, od, .func (PySem.W.fnOf name qual params body scope dV kV doc pm an cdv ct), osl⟩) (hcd : PySem.W.codeIn K cdv qual = true) (S : FnScope N ps scope) (len : ∀ vs H Q E, sp vs H Q E → vs.length = ps.length)
    (hbody : ∀ (A : Around) (outer : List Env) (s : Shared) (H : Hp) (vs : List V) (Q : VK) (E : XK), Room k (A.deeper (envOfC qual scope s.heap.objs.size f cdv)) → A.guards = some [] → sp vs H Q E →
      ∃ t, PSs (cxOf (L2.CX P w) P w K mg base N qual scope f cdv A outer s H E) body t ∧ t { nx := fun _ H' => Q .non H', rt := Q } (L2.start N vs) H) :
    FnG P w K mg base (k + 1) f (PySem.W.fnOf name qual params body scope dV kV doc pm an cdv ct) ps sp := by
  refine ⟨len, fun A outer s H args us vs Q E hr hgd e0 hb r hsp => ?_⟩
  have hvl := len _ _ _ _ hsp
  have kIn : K.In s.heap := e0.mod.kin.keeps fun b o e => (e0.bs b o e).1
  have noLim : s.heap.NoLimit := e0.mod.nolimit.keeps fun b o e => (e0.bs b o e).1
  have kinds : ∀ y ∈ ps.zip us, scope.names.lookup y.1 = some .local ∨ (scope.names.lookup y.1 = some .cell ∧ ((cellsFrom (s.heap.objs.size + 1) scope.names []).lookup y.1).isSome = true) := by
    rintro ⟨n, v⟩ hy
    rcases S.par n (List.of_mem_zip hy).1 with q | q
    · exact .inl q
    · exact .inr ⟨q, PySem.W.cellsFrom_some _ _ _ (.inl q)⟩
  refine codeAny_call_function hr.depth (kIn _ _ lk) rfl S.co S.gen rfl (PySem.W.codeRec_of kIn hcd) (hb _ _ _ _ ?_)
  refine wpAny_newFunctionEnv_cells S.kind kinds fun env henv s1 x => ?_
  subst henv
  refine ⟨noLim.keeps x.toInCall.keep, codeAny_func ?_⟩
  obtain ⟨t, ht, hq⟩ := hbody A outer s H vs Q E (hr.deeper _) hgd hsp
  have I := inv_start (CX := L2.CX P w) (E := E) S hr.hd e0 hvl r x
  refine wpAny_mono (ht.run [] s1 (L2.start N vs) H _ I hq) (fun fl s' hs => ?_) fun e s' hs => hs
  cases fl with
  | ret u =>
    obtain ⟨v, σ', H', J, rv, q⟩ := hs
    exact ⟨v, H', J.os, J.bare, J.base, J.hok, rv, q⟩
  | next =>
    obtain ⟨σ', H', J, q⟩ := hs
    exact ⟨V.non, H', J.os, J.bare, J.base, J.hok, rfl, q⟩
  | brk =>
    obtain ⟨_, _, _, q⟩ := hs
    exact q.elim
  | cont =>
    obtain ⟨_, _, _, q⟩ := hs
    exact q.elim
end
/-- how an argument is handed in: as data, lent, the script -/
inductive AK where
  | v | b | s
abbrev FS := List D → Mem → (D → Mem → Prop) → (Addr → Mem → Prop) → Prop
def ArgOk (K : PySem.W.Frag) (A U : Addr → Prop) (H : Hp) (v : V) (d : D) : AK → Prop
  | .v => Is K A H v d
  | .b => match d with
    | .tup ds => ∃ a vs, v = .ref a ∧ TupAt K U H a vs ∧ IsL K A H vs ds
    | .lst ds => ∃ a vs, v = .ref a ∧ LstAt U H a vs ∧ IsL K A H vs ds
    | .dic _ => True
    | d => Is K A H v d
  | .s => ∃ a ns, v = .ref a ∧ d = .lst (ns.map D.int) ∧ ScrAt K U H a ns
def ArgsOk (K : PySem.W.Frag) (A U : Addr → Prop) (H : Hp) : List AK → List V → List D → Prop
  | [], [], [] => True
  | k :: ks, v :: vs, d :: ds => ArgOk K A U H v d k ∧ ArgsOk K A U H ks vs ds
  | _, _, _ => False
/-- no slot's own is in it -/
def Flds (O : Own) : Prop := ∀ a i, O a ≠ some (.slot i)
def toSp (K : PySem.W.Frag) (ks : List AK) (fs : FS) : Sp := fun vs H Q E => ∃ B M O ds, MemOk K B H M O ∧ Flds O ∧ ArgsOk K (Av B M O) (Mut M O) H ks vs ds ∧
  fs ds M (fun d M' => ∀ v H' O', MemOk K B H' M' O' → Flds O' → Step (Mut M O) H (Mut M' O') H' → Is K (Av B M' O') H' v d → Q v H')
    (fun C M' => ∀ H' O', MemOk K B H' M' O' → Flds O' → Step (Mut M O) H (Mut M' O') H' → E (.ref C) none H')
theorem ArgsOk.len {K : PySem.W.Frag} {A U : Addr → Prop} {H : Hp} : ∀ {ks : List AK} {vs : List V} {ds : List D}, ArgsOk K A U H ks vs ds → vs.length = ks.length
  | [], [], [], _ => rfl
  | _ :: ks, _ :: vs, _ :: ds, h => congrArg (· + 1) (ArgsOk.len h.2)
  | [], [], _ :: _, h => h.elim
  | [], _ :: _, [], h => h.elim
  | [], _ :: _, _ :: _, h => h.elim
  | _ :: _, [], [], h => h.elim
  | _ :: _, [], _ :: _, h => h.elim
  | _ :: _, _ :: _, [], h => h.elim
theorem ArgsOk.len2 {K : PySem.W.Frag} {A U : Addr → Prop} {H : Hp} : ∀ {ks : List AK} {vs : List V} {ds : List D}, ArgsOk K A U H ks vs ds → ds.length = ks.length
  | [], [], [], _ => rfl
  | _ :: ks, _ :: vs, _ :: ds, h => congrArg (· + 1) (ArgsOk.len2 h.2)
  | [], [], _ :: _, h => h.elim
  | [], _ :: _, [], h => h.elim
  | [], _ :: _, _ :: _, h => h.elim
  | _ :: _, [], [], h => h.elim
  | _ :: _, [], _ :: _, h => h.elim
  | _ :: _, _ :: _, [], h => h.elim
/-- the slots at the entry -/
def aSl : AK → D → Sl
  | .v, d => .v d
  | .b, .tup ds => .b true ds
  | .b, .lst ds => .b false ds
  | .b, .dic _ => .n
  | .b, d => .v d
  | .s, .lst ds => match intsOf ds with
    | some ns => .s ns
    | none => .n
  | .s, _ => .n
def aSls : List AK → List D → List Sl
  | k :: ks, d :: ds => aSl k d :: aSls ks ds
  | _, _ => []
def entry (n : Nat) (ks : List AK) (ds : List D) (X : Addr → Mem → Prop) : Fr := ⟨aSls ks ds ++ List.replicate (n - ks.length) .n, X⟩
theorem argSl {K : PySem.W.Frag} {B : Addr → Prop} {M : Mem} {O : Own} {H : Hp} {v : V} {d : D} {i : Nat} : ∀ {k : AK}, ArgOk K (Av B M O) (Mut M O) H v d k → SlOk K B H M O i (some v) (aSl k d)
  | .v, h => ⟨v, rfl, h⟩
  | .b, h => by
    cases d with
    | tup ds =>
      obtain ⟨a, vs, e, h1, h2⟩ := h
      exact ⟨a, vs, by rw [e], h1, h2⟩
    | lst ds =>
      obtain ⟨a, vs, e, h1, h2⟩ := h
      exact ⟨a, vs, by rw [e], h1, h2⟩
    | dic ds => trivial
    | _ => exact ⟨v, rfl, h⟩
  | .s, h => by
    obtain ⟨a, ns, e, e2, h⟩ := h
    subst e2
    show SlOk K B H M O i (some v) (match intsOf (ns.map D.int) with
      | some ns => Sl.s ns
      | none => Sl.n)
    rw [intsOf_map]
    exact ⟨a, by rw [e], h⟩
theorem argSls {K : PySem.W.Frag} {B : Addr → Prop} {M : Mem} {O : Own} {H : Hp} : ∀ {ks : List AK} {vs : List V} {ds : List D}, ArgsOk K (Av B M O) (Mut M O) H ks vs ds → (aSls ks ds).length = vs.length ∧ ∀ (i : Nat) (s : Sl), (aSls ks ds)[i]? = some s → ∃ v, vs[i]? = some v ∧ ∀ j, SlOk K B H M O j (some v) s
  | [], [], [], _ => ⟨rfl, fun i s e => by simp [aSls] at e⟩
  | k :: ks, v :: vs, d :: ds, h => by
    obtain ⟨h1, h2⟩ := argSls h.2
    refine ⟨congrArg (· + 1) h1, fun i s e => ?_⟩
    cases i with
    | zero =>
      have e : some (aSl k d) = some s := e
      cases e
      exact ⟨v, rfl, fun j => argSl h.1⟩
    | succ i => exact h2 i s e
  | [], [], _ :: _, h => h.elim
  | [], _ :: _, [], h => h.elim
  | [], _ :: _, _ :: _, h => h.elim
  | _ :: _, [], [], h => h.elim
  | _ :: _, [], _ :: _, h => h.elim
  | _ :: _, _ :: _, [], h => h.elim
def drops (O : Own) : Own := fun a => match O a with
  | some (.fld b f) => some (.fld b f)
  | _ => none
theorem drops_flds (O : Own) : Flds (drops O) := fun a i z => by
  unfold drops at z
  split at z <;> cases z
theorem mut_drops {M : Mem} {O : Own} (b : Addr) (z : Mut M (drops O) b) : Mut M O b := by
  rcases z with z | z
  · exact .inl z
  · refine .inr fun e => z ?_
    unfold drops
    rw [e]
theorem MemOk.drops {K : PySem.W.Frag} {B : Addr → Prop} {H : Hp} {M : Mem} {O : Own} (m : MemOk K B H M O) : MemOk K B H M (drops O) := by
  have s : Step (Av B M O) H (Av B M (DL.drops O)) H := step_id fun b _ n z => n (z.elim .inl fun z => .inr (mut_drops b z))
  refine ⟨fun b mo e => ?_, fun b w e => ?_, m.btr⟩
  · obtain ⟨h1, h2, h3⟩ := m.mem b mo e
    refine ⟨h1, by unfold DL.drops; rw [h2], h3.stepS s (fun _ e => e) fun l f q => ⟨by unfold DL.drops; rw [q], fun _ e => e⟩⟩
  · unfold DL.drops at e
    split at e
    · rename_i q
      exact m.own b _ q
    · cases e
def MonoF (fs : FS) : Prop := ∀ ds M Q Q' X X', (∀ d M', Q d M' → Q' d M') → (∀ C M', X C M' → X' C M') → fs ds M Q X → fs ds M Q' X'
section
variable {P : Program} {w : World} {K : PySem.W.Frag} {mg : Str → Option Value} {base : Heap} {j k : Nat} {f : Addr} {fd : FuncData} {ps : List Str} {fs : FS} {ks : List AK}
/-- THE RULE for a def: its body's derivation, and that its reading is what the promise asks -/
theorem d_fnC {x qual : Str} {st : Stmt} {N : List Str} {g : GS} (F : Fun K x qual st f fd) (S : FnScope N ps (defScope st)) (hk : ks.length = ps.length)
    (hbody : ∀ (cdv : Value), fd.code = cdv → ∀ (A : Around) (outer : List Env) (s : Shared) (H : Hp) (E : XK), Room k (A.deeper (envOfC qual (defScope st) s.heap.objs.size f cdv)) → A.guards = some [] →
      DSs (cxOf (L2.CX P w) P w K mg base N qual (defScope st) f cdv A outer s H E) (defBody st) g)
    (hfs : ∀ ds M Q X, fs ds M Q X → ds.length = ks.length → g { nx := fun _ M' => Q .non M', rt := Q } (entry N.length ks ds X) M) : FnG P w K mg base (k + 1) f fd ps (toSp K ks fs) := by
  obtain ⟨oc, od, kV, doc, pm, an, cdv, ct, osl, rfl, lk, hcd⟩ := F.ex
  refine fng_of lk hcd S (fun vs H Q E h => ?_) fun A outer s H vs Q E hr hgd hsp => ?_
  · obtain ⟨B, M, O, ds, _, _, h, _⟩ := h
    rw [h.len, hk]
  · obtain ⟨B, M, O, ds, hm, hO, ha, hq⟩ := hsp
    have hd := hbody cdv rfl A outer s H E hr hgd
    refine ⟨_, hd.run, B, ⟨B, H, Mut M O, fun C M' => ∀ H' O', MemOk K B H' M' O' → Flds O' → Step (Mut M O) H (Mut M' O') H' → E (.ref C) none H', fun C H' => E (.ref C) none H'⟩, entry N.length ks ds _, M, O, ⟨hm, ?_, fun i s e => ?_, Step.refl _ _, fun _ z => z, fun C M' H' O' h1 h2 h3 => h3 H' (drops O') h1.drops (drops_flds _) (h2.trans (step_id fun b _ n z => n (mut_drops b z))), ?_, rfl⟩, ?_⟩
    · show (L2.start N vs).length = (aSls ks ds ++ List.replicate (N.length - ks.length) Sl.n).length
      unfold L2.start
      rw [List.length_append, List.length_append, List.length_map, List.length_replicate, List.length_replicate, (argSls ha).1, ha.len]
    · have e : (aSls ks ds ++ List.replicate (N.length - ks.length) Sl.n)[i]? = some s := e
      by_cases hi : i < (aSls ks ds).length
      · rw [List.getElem?_append_left hi] at e
        obtain ⟨v, hv, q⟩ := (argSls ha).2 i s e
        have e2 : (L2.start N vs)[i]? = some (some v) := by
          unfold L2.start
          rw [List.getElem?_append_left (by rw [List.length_map, ← (argSls ha).1]; exact hi), List.getElem?_map, hv]
          rfl
        rw [e2]
        exact q i
      · rw [List.getElem?_append_right (by omega), List.getElem?_replicate] at e
        split at e
        · cases e
          trivial
        · cases e
    · exact (takes_of rfl rfl rfl rfl).imp fun cls d σ H h => by
        obtain ⟨C, e1, e2, h⟩ := h
        subst e1; subst e2
        exact h
    · refine hd.mono { nx := fun _ M' => (fun d M' => ∀ v H' O', MemOk K B H' M' O' → Flds O' → Step (Mut M O) H (Mut M' O') H' → Is K (Av B M' O') H' v d → Q v H') .non M', rt := fun d M' => ∀ v H' O', MemOk K B H' M' O' → Flds O' → Step (Mut M O) H (Mut M' O') H' → Is K (Av B M' O') H' v d → Q v H' } _ _ _ ⟨fun r' M' q σ' H' O' R' => ?_, fun d M' q v H' O' h1 h2 h3 => ?_, fun _ _ z => z.elim, fun _ _ z => z.elim⟩ (hfs ds M _ _ hq ha.len2)
      · exact q .non H' (drops O') R'.m.drops (drops_flds _) (R'.ent.trans (step_id fun b _ n z => n (mut_drops b z))) .non
      · exact q v H' (drops O') h1.drops (drops_flds _) (h2.trans (step_id fun b _ n z => n (mut_drops b z))) (h3.step (step_id fun b _ n z => n (z.elim .inl fun z => .inr (mut_drops b z))))
theorem d_fn {x qual : Str} {st : Stmt} {N : List Str} {g : GS} (F : Fun K x qual st f fd) (S : FnScope N ps (defScope st)) (hk : ks.length = ps.length)
    (hbody : ∀ (cdv : Value) (A : Around) (outer : List Env) (s : Shared) (H : Hp) (E : XK), Room k (A.deeper (envOfC qual (defScope st) s.heap.objs.size f cdv)) → A.guards = some [] →
      DSs (cxOf (L2.CX P w) P w K mg base N qual (defScope st) f cdv A outer s H E) (defBody st) g)
    (hfs : ∀ ds M Q X, fs ds M Q X → ds.length = ks.length → g { nx := fun _ M' => Q .non M', rt := Q } (entry N.length ks ds X) M) : FnG P w K mg base (k + 1) f fd ps (toSp K ks fs) :=
  d_fnC F S hk (fun cdv _ => hbody cdv) hfs
end
end DL
set_option Elab.async false
set_option linter.all false
set_option maxRecDepth 100000
namespace DL
open PySem PySem.Spec PyProof.Rows L2
def ArgX (K : PySem.W.Frag) (A U : Addr → Prop) (H : Hp) (v : V) (d : D) : AK → Prop
  | .v => Is K A H v d
  | .b => Is1 K A H v d
  | .s => ∃ a ns, v = .ref a ∧ d = .lst (ns.map D.int) ∧ ScrAt K U H a ns
def ArgsX (K : PySem.W.Frag) (A U : Addr → Prop) (H : Hp) : List AK → List V → List D → Prop
  | [], [], [] => True
  | k :: ks, v :: vs, d :: ds => ArgX K A U H v d k ∧ ArgsX K A U H ks vs ds
  | _, _, _ => False
def AK.w : AK → Bool
  | .b => false
  | _ => true
section
variable {X : Cx} {w p : Bool} {e : Expr} {es : List Expr} {g : GE} {gs : GA} {B : Addr → Prop} {E : En} {σ : L2.St} {H H' : Hp} {r : Fr} {M M' : Mem} {O O' : Own} {pos : Pos} {k : AK} {ks : List AK}
def LAk (p : Bool) (X : Cx) (ks : List AK) (B : Addr → Prop) (E : En) (σ : L2.St) (r : Fr) (H : Hp) (M : Mem) (O : Own) (Q : List V → Hp → Prop) : List D → Mem → Prop := fun ds M' =>
  ∀ vs H' O', Rep X B E σ H' r M' O' → Rl p M O H M' O' H' → ArgsX X.K (Av B M' O') (Mut M' O') H' ks vs ds → Q vs H'
structure DAk (p : Bool) (X : Cx) (ks : List AK) (es : List Expr) (g : GA) : Prop where
  run : PA X es (fun σ H Q => ∃ B E r M O, Rep X B E σ H r M O ∧ g r M (LAk p X ks B E σ r H M O Q))
  mono : ∀ r M Q Q', (∀ d M', Q d M' → Q' d M') → g r M Q → g r M Q'
theorem DAk.on (ha : DAk p X ks es gs) (R : Rep X B E σ H r M O) {kk : List D → Mem → Prop} (h : gs r M kk) {Q : List V → Hp → Prop}
    (hk : ∀ d M1 v H1 O1, kk d M1 → Rep X B E σ H1 r M1 O1 → Rl p M O H M1 O1 H1 → ArgsX X.K (Av B M1 O1) (Mut M1 O1) H1 ks v d → Q v H1) :
    ∃ B E r M O, Rep X B E σ H r M O ∧ gs r M (LAk p X ks B E σ r H M O Q) :=
  ⟨B, E, r, M, O, R, ha.mono r M _ _ (fun d M1 h1 v H1 O1 R1 l1 i1 => hk d M1 v H1 O1 h1 R1 l1 i1) h⟩
theorem dak_nil : DAk p X [] [] gNil := ⟨paI pa_nil fun σ H Q ⟨B, E, r, M, O, R, q⟩ => q [] H O R Rl.refl trivial, fun r M Q Q' h q => h _ _ q⟩
theorem argX_of (hk : k = .v ∨ k = .b) {A U : Addr → Prop} {v : V} {d : D} (h : IsX k.w X.K A H v d) : ArgX X.K A U H v d k := by
  rcases hk with rfl | rfl
  · exact h
  · exact h
theorem dak_cons (ha : DE k.w p X e g) (hr : DAk p X ks es gs) (hk : k = .v ∨ k = .b := by first | exact .inl rfl | exact .inr rfl) (hw : (k.w || p) = true := by first | rfl | exact Bool.or_true _) (hs : starEach (e :: es) X.env = (false, eval e X.env) :: starEach es X.env := by rfl) : DAk p X (k :: ks) (e :: es) (gCons g gs) := by
  refine ⟨paI (pa_cons ha.run hr.run hs) fun σ H Q ⟨B, E, r, M, O, R, q⟩ => ?_, fun r M Q Q' h q => ha.mono r M _ _ (fun d M1 q1 => hr.mono r M1 _ _ (fun ds M2 q2 => h _ _ q2) q1) q⟩
  refine ha.on R q fun d M1 v H1 O1 k1 R1 l1 i1 => ?_
  refine hr.on R1 k1 fun ds M2 vs H2 O2 k2 R2 l2 i2 => ?_
  exact k2 (v :: vs) H2 O2 R2 (l1.trans l2) ⟨argX_of hk (IsX.next hw l2 i1), i2⟩
theorem dak_one (ha : DE k.w p X e g) (hk : k = .v ∨ k = .b := by first | exact .inl rfl | exact .inr rfl) (hs : starEach [e] X.env = (false, eval e X.env) :: starEach [] X.env := by rfl) : DAk p X [k] [e] (gCons g gNil) := by
  refine ⟨paI (pa_cons ha.run pa_nil hs) fun σ H Q ⟨B, E, r, M, O, R, q⟩ => ?_, fun r M Q Q' h q => ha.mono r M _ _ (fun d M1 q1 => h _ _ q1) q⟩
  exact ha.on R q fun d M1 v H1 O1 k1 R1 l1 i1 => k1 [v] H1 O1 R1 l1 ⟨argX_of hk i1, trivial⟩
/-- the script handed on -/
def gScr (i : Nat) : GA := fun r M Q => match r.sl[i]? with
  | some (.s ns) => Q [.lst (ns.map D.int)] M
  | _ => False
theorem dak_scr (i : Nat) {x : Str} (hN : X.N[i]? = some x := by rfl) (hv : Vis X.env.scope x := by first | exact Or.inl rfl | exact Or.inr (Or.inl rfl) | exact Or.inr (Or.inr rfl)) (hd : (x == ("__debug__" : Str)) = false := by decide)
    (hcd : (x == ("__classdict__" : Str)) = false := by decide) (hs : starEach [Expr.Name x pos] X.env = (false, eval (.Name x pos) X.env) :: starEach [] X.env := by rfl) : DAk p X [.s] [.Name x pos] (gScr i) := by
  refine ⟨paI (pa_cons (pe_var hN hv hd hcd) pa_nil hs) fun σ H Q ⟨B, E, r, M, O, R, q⟩ => ?_, fun r M Q Q' h q => ?_⟩
  · unfold gScr at q
    split at q
    · rename_i ns er
      obtain ⟨x, e1, a, e2, h⟩ := R.slot er
      subst e2
      exact ⟨_, e1, q [_] H O R Rl.refl ⟨⟨a, ns, rfl, rfl, h⟩, trivial⟩⟩
    · exact q.elim
  · unfold gScr at q ⊢
    split at q
    · exact h _ _ q
    · exact q.elim
/-- len(script) -/
def gLenS (i : Nat) : GE := fun r M Q => match r.sl[i]? with
  | some (.s ns) => Q (.int ns.length) M
  | _ => False
theorem de_lenS (i : Nat) {x : Str} {px pf : Pos} (hg : Gl X "len") (hm : X.mg "len" = none) (hN : X.N[i]? = some x := by rfl) (hv : Vis X.env.scope x := by first | exact Or.inl rfl | exact Or.inr (Or.inl rfl) | exact Or.inr (Or.inr rfl)) (hd : (x == ("__debug__" : Str)) = false := by decide)
    (hcd : (x == ("__classdict__" : Str)) = false := by decide) (hs : starEach [Expr.Name x px] X.env = (false, eval (.Name x px) X.env) :: starEach [] X.env := by rfl) (hpl : (backTo pos (starEach [] X.env)).any (·.1) = false := by rfl) :
    DE true p X (.Call (.Name "len" pf) [.Name x px] [] pos) (gLenS i) := by
  refine ⟨peI (pe_callB call_len hg hm PySem.boot_len (pa_cons (pe_var hN hv hd hcd) pa_nil hs) (by decide) (by decide) hs hpl) fun σ H Q ⟨B, E, r, M, O, R, q⟩ => ?_, fun r M Q Q' h q => ?_⟩
  · unfold gLenS at q
    split at q
    · rename_i ns er
      obtain ⟨x, e1, a, e2, h⟩ := R.slot er
      subst e2
      exact ⟨_, e1, .ref a, _, rfl, .inl ⟨_, h.sq, rfl⟩, by rw [List.length_map]; exact fin_v R (.int _) q⟩
    · exact q.elim
  · unfold gLenS at q ⊢
    split at q
    · exact h _ _ q
    · exact q.elim
theorem run_fg {n : Nat} {f : Addr} {fd : FuncData} {ps : List Str} {sp : Sp} {Ex : XK} {pins : List (Addr × Obj)} {s : Shared} {Q : VK} {us : List Value} {vs : List V} (F : FnG X.prog X.w X.K X.mg X.base n f fd ps sp) (hr : Room n X.A) (hgd : X.A.guards = some [])
    (hb : Binds X.K fd ps []) (hx : Passes (L2.CX X.prog X.w) X Ex) (I : Inv X pins σ H s) (rv : Vals vs us) (h : sp vs H Q Ex) : wpAny (model X.prog X.w) X.A (call (.ref f) us) (EP X pins σ Q) X.xe s := by
  have hlen : (us ++ []).length = ps.length := by rw [List.append_nil, ← rv.length]; exact F.len _ _ _ _ h
  have hbd := hb s us I.kIn hlen
  rw [List.append_nil] at hbd
  refine wpAny_call (codeAny_mono (F.run X.A X.stack s H ⟨us, []⟩ us vs Q Ex hr hgd I.env0 hbd rv h) fun r s' hq => ?_)
  cases r with
  | error e => exact hx pins σ H s e s' I hq
  | ok fl =>
    cases fl with
    | ret u => exact I.after hq
    | next => exact hq.elim
    | brk => exact hq.elim
    | cont => exact hq.elim
theorem MemOk.subB {B0 : Addr → Prop} {K : PySem.W.Frag} (m : MemOk K B H M O) (h : ∀ b, B0 b → B b) : MemOk K B0 H M O := by
  have s : Step (Av B M O) H (Av B0 M O) H := step_id fun b _ n z => n (z.elim (fun z => .inl (h b z)) .inr)
  refine ⟨fun b mo e => ?_, fun b w e => ?_, fun b z => m.btr b (h b z)⟩
  · obtain ⟨h1, h2, h3⟩ := m.mem b mo e
    exact ⟨fun z => h1 (h b z), h2, h3.stepS s (fun _ e => e) fun l f q => ⟨q, fun _ e => e⟩⟩
  · exact ⟨fun z => (m.own b w e).1 (h b z), (m.own b w e).2⟩
def M0 : Mem := fun _ => none
def O0 : Own := fun _ => none
theorem mut0 (b : Addr) : ¬ Mut M0 O0 b := fun z => z.elim (fun z => z rfl) fun z => z rfl
theorem av0 {B : Addr → Prop} : Av B M0 O0 = B := by
  funext b
  apply propext
  exact ⟨fun z => z.elim _root_.id fun z => (mut0 b z).elim, .inl⟩
theorem argOk0 {A U : Addr → Prop} {K : PySem.W.Frag} {v : V} {d : D} : ∀ {k : AK}, ArgX K A U H v d k → ArgOk K A (Mut M0 O0) H v d k
  | .v, h => h
  | .b, h => by
    cases d with
    | tup ds =>
      obtain ⟨a, vs, e, h1, h2⟩ := h
      refine ⟨a, vs, e, ?_, h2⟩
      rcases h1 with h1 | h1
      · exact .inl ⟨mut0 a, h1⟩
      · exact .inr h1
    | lst ds =>
      obtain ⟨a, vs, e, h1, h2⟩ := h
      exact ⟨a, vs, e, ⟨mut0 a, h1⟩, h2⟩
    | dic ds => trivial
    | _ => exact h
  | .s, ⟨a, ns, e1, e2, h⟩ => by
    refine ⟨a, ns, e1, e2, ?_⟩
    rcases h with ⟨_, h⟩ | h
    · exact .inl ⟨mut0 a, h⟩
    · exact .inr h
theorem argsOk0 {A U : Addr → Prop} {K : PySem.W.Frag} : ∀ {ks : List AK} {vs : List V} {ds : List D}, ArgsX K A U H ks vs ds → ArgsOk K A (Mut M0 O0) H ks vs ds
  | [], [], [], _ => trivial
  | _ :: _, _ :: _, _ :: _, h => ⟨argOk0 h.1, argsOk0 h.2⟩
  | [], [], _ :: _, h => h.elim
  | [], _ :: _, [], h => h.elim
  | [], _ :: _, _ :: _, h => h.elim
  | _ :: _, [], [], h => h.elim
  | _ :: _, [], _ :: _, h => h.elim
  | _ :: _, _ :: _, [], h => h.elim
/-- a call that is handed no memory: it changes nothing -/
def gCallP (fs : FS) (gs : GA) : GE := fun r M Q => gs r M fun ds M1 => fs ds M0 (fun d _ => Q d M1) fun C _ => r.ex C M1
theorem callP_pre {fs : FS} (R : Rep X B E σ H r M O) {vs : List V} {ds : List D} (ha : ArgsX X.K (Av B M O) (Mut M O) H ks vs ds) {Q : VK} (h : fs ds M0 (fun d _ => LE w p X B E σ r H M O Q d M) fun C _ => r.ex C M) (hmf : MonoF fs) : toSp X.K ks fs vs H Q (xk E.W) := by
  refine ⟨Av B M O, M0, O0, ds, ⟨fun a mo e => (nomatch e), fun a w e => (nomatch e), fun a z n => R.m.fresh n z⟩, fun a i z => (nomatch z), by rw [av0]; exact argsOk0 ha, ?_⟩
  have sm : ∀ {H' : Hp} {M' : Mem} {O' : Own}, Step (Mut M0 O0) H (Mut M' O') H' → Same H H' := fun s a o e => (s a o e (mut0 a)).1
  refine hmf _ _ _ _ _ _ (fun d M' q v H' O' h1 h2 h3 h4 => ?_) (fun C M' q H' O' h1 h2 h3 => ?_) h
  · exact q v H' O (R.same (sm h3)) (Rl.of_same (sm h3)) (IsX.of (h4.step (step_id fun b _ n z => n (.inl z))))
  · refine ⟨C, rfl, rfl, ?_⟩
    have R' := R.same (sm h3)
    refine R.exc C M H' O (R'.m.subB R.sub) R'.ent ?_
    rw [← R.xe]
    exact q
theorem de_callP {n : Nat} {f : Addr} {fd : FuncData} {ps : List Str} {fs : FS} {x : Str} {pf : Pos} (F : FnG X.prog X.w X.K X.mg X.base n f fd ps (toSp X.K ks fs)) (hmf : MonoF fs) (hr : Room n X.A) (hgd : X.A.guards = some []) (hg : Gl X x) (hm : X.mg x = some (.ref f))
    (hk : PySem.W.keepIn X.K (.ref f) = true) (hb : Binds X.K fd ps []) (ha : DAk p X ks (e :: es) gs) (hdb : (x == ("__debug__" : Str)) = false := by decide) (he : starEach (e :: es) X.env = (false, eval e X.env) :: starEach es X.env := by rfl)
    (hpl : (backTo pos (starEach es X.env)).any (·.1) = false := by rfl) : DE true p X (.Call (.Name x pf) (e :: es) [] pos) (gCallP fs gs) := by
  refine ⟨⟨fun pins s σ H Q I ⟨B, E, r, M, O, R, q⟩ => ?_⟩, fun r M Q Q' h q => ha.mono _ _ _ _ (fun ds M1 q1 => hmf _ _ _ _ _ _ (fun d M' q2 => h _ _ q2) (fun C M' q2 => q2) q1) q⟩
  refine wpAny_Call_Name_kw (ld_glob I hg hm ?_ hdb)
  have hq := ha.on R q (Q := fun vs H1 => Passes (L2.CX X.prog X.w) X (xk E.W) ∧ toSp X.K ks fs vs H1 Q (xk E.W)) fun ds M1 vs H1 O1 k1 R1 l1 i1 => ⟨R1.ps, callP_pre R1 i1 (hmf _ _ _ _ _ _ (fun d M' q2 => LE.go l1 q2) (fun C M' q2 => q2) k1) hmf⟩
  refine PySem.W.callWith_K (h₀ := X.base) I.ok.mod.kin hk (thn (ha.run.run pos pins s σ H _ I hq) fun us s1 ⟨vs, H1, I1, r1, lk, qq⟩ => ⟨I1.kIn, ?_⟩) he hpl
  exact run_fg F hr hgd hb lk I1 r1 qq
/-- a call that may change the memory -/
def slots (O : Own) (b : Addr) : Prop := ∃ i, O b = some (.slot i)
def Bs (B : Addr → Prop) (O : Own) : Addr → Prop := fun b => B b ∨ slots O b
theorem av_bs : Av (Bs B O) M (drops O) = Av B M O := by
  funext b
  apply propext
  constructor
  · rintro ((h | ⟨i, h⟩) | h)
    · exact .inl h
    · exact .inr (.inr (by rw [h]; simp))
    · exact .inr (mut_drops b h)
  · rintro (h | h | h)
    · exact .inl (.inl h)
    · exact .inr (.inl h)
    · cases e : O b with
      | none => exact absurd e h
      | some w =>
        cases w with
        | slot i => exact .inl (.inr ⟨i, e⟩)
        | fld a f => exact .inr (.inr (by unfold drops; rw [e]; simp))
/-- the slots' own as they were, the fields' as they are now -/
def back (O O' : Own) : Own := fun b => match O b with
  | some (.slot i) => some (.slot i)
  | _ => O' b
theorem back_slot {b : Addr} {i : Nat} (h : O b = some (.slot i)) : back O O' b = some (.slot i) := by unfold back; rw [h]
theorem back_none {b : Addr} (h : ¬ slots O b) : back O O' b = O' b := by
  unfold back
  cases e : O b with
  | none => rfl
  | some w =>
    cases w with
    | slot i => exact (h ⟨i, e⟩).elim
    | fld a f => rfl
theorem Rep.called (R : Rep X B E σ H r M O) (m : MemOk X.K (Bs B O) H' M' O') (s : Step (Mut M (drops O)) H (Mut M' O') H') : Rep X B E σ H' r M' (back O O') ∧ Step (Mut M O) H (Mut M' (back O O')) H' ∧ Av B M' (back O O') = Av (Bs B O) M' O' := by
  have hav : Av B M' (back O O') = Av (Bs B O) M' O' := by
    funext b
    apply propext
    by_cases hs : slots O b
    · obtain ⟨i, hi⟩ := hs
      exact ⟨fun _ => .inl (.inr ⟨i, hi⟩), fun _ => .inr (.inr (by rw [back_slot hi]; simp))⟩
    · unfold Av Mut Bs
      rw [back_none hs]
      constructor
      · rintro (h | h)
        · exact .inl (.inl h)
        · exact .inr h
      · rintro ((h | h) | h)
        · exact .inl h
        · exact (hs h).elim
        · exact .inr h
  have sl : ∀ {b : Addr} {o : HO}, slots O b → H b = some o → H' b = some o ∧ ¬ Mut M' O' b := fun {b o} hs e => s b o e fun z => by
    obtain ⟨i, hi⟩ := hs
    rcases z with z | z
    · cases q : M b with
      | none => exact z q
      | some mo => have := (R.m.mem b mo q).2.1; rw [hi] at this; cases this
    · unfold drops at z; rw [hi] at z; exact z rfl
  have sm : Step (Mut M O) H (Mut M' (back O O')) H' := fun b o e n => by
    have n1 : ¬ Mut M (drops O) b := fun z => n (mut_drops b z)
    obtain ⟨h1, h2⟩ := s b o e n1
    refine ⟨h1, fun z => ?_⟩
    have hs : ¬ slots O b := fun ⟨i, hi⟩ => n (.inr (by rw [hi]; simp))
    rcases z with z | z
    · exact h2 (.inl z)
    · rw [back_none hs] at z; exact h2 (.inr z)
  have sa : Step (Av B M O) H (Av B M' (back O O')) H' := fun b o e n =>
    have n1 : ¬ B b := fun z => n (.inl z)
    have ⟨h1, h2⟩ := sm b o e fun z => n (.inr z)
    ⟨h1, fun z => z.elim n1 h2⟩
  refine ⟨⟨⟨fun b mo e => ?_, fun b w e => ?_, fun b z => m.btr b (.inl z)⟩, R.len, fun i x e => ?_, R.ent.trans sm, R.sub, R.exc, R.lk, R.xe⟩, sm, hav⟩
  · obtain ⟨h1, h2, h3⟩ := m.mem b mo e
    have hs : ¬ slots O b := fun z => h1 (.inr z)
    refine ⟨fun z => h1 (.inl z), by rw [back_none hs]; exact h2, ?_⟩
    rw [hav]
    refine h3.stepS (Step.refl _ _) (fun _ e => e) fun l f q => ⟨?_, fun _ e => e⟩
    rw [back_none fun z => (m.own l _ q).1 (.inr z)]
    exact q
  · by_cases hs : slots O b
    · obtain ⟨i, hi⟩ := hs
      obtain ⟨h1, h2⟩ := R.m.own b _ hi
      refine ⟨h1, ?_⟩
      exact m.btr b (.inr ⟨i, hi⟩)
    · rw [back_none hs] at e
      exact ⟨fun z => (m.own b w e).1 (.inl z), (m.own b w e).2⟩
  · exact (R.sl i x e).stepS sa sm fun l q => ⟨back_slot q, fun o e => (sl ⟨i, q⟩ e).1⟩
def gCallM (fs : FS) (gs : GA) : GE := fun r M Q => gs r M fun ds M1 => fs ds M1 Q r.ex
def vks (ks : List AK) : Bool := ks.all fun k => match k with
  | .b => false
  | _ => true
theorem argsOkM {A U U' : Addr → Prop} {K : PySem.W.Frag} (hU : ∀ b, U' b → U b) : ∀ {ks : List AK} {vs : List V} {ds : List D}, vks ks = true → ArgsX K A U H ks vs ds → ArgsOk K A U' H ks vs ds
  | [], [], [], _, _ => trivial
  | .v :: _, _ :: _, _ :: _, h, q => ⟨q.1, argsOkM hU (by simpa [vks] using h) q.2⟩
  | .s :: _, _ :: _, _ :: _, h, q => by
    obtain ⟨⟨a, ns, e1, e2, h3⟩, q2⟩ := q
    exact ⟨⟨a, ns, e1, e2, h3.step (step_id fun b _ n z => n (hU b z))⟩, argsOkM hU (by simpa [vks] using h) q2⟩
  | .b :: _, _ :: _, _ :: _, h, _ => by simp [vks] at h
  | [], [], _ :: _, _, h => h.elim
  | [], _ :: _, [], _, h => h.elim
  | [], _ :: _, _ :: _, _, h => h.elim
  | _ :: _, [], [], _, h => h.elim
  | _ :: _, [], _ :: _, _, h => h.elim
  | _ :: _, _ :: _, [], _, h => h.elim
theorem callM_pre {fs : FS} (R : Rep X B E σ H r M O) {vs : List V} {ds : List D} (hk : vks ks = true) (ha : ArgsX X.K (Av B M O) (Mut M O) H ks vs ds) {Q : VK} (h : fs ds M (LE true false X B E σ r H M O Q) r.ex) (hmf : MonoF fs) : toSp X.K ks fs vs H Q (xk E.W) := by
  refine ⟨Bs B O, M, drops O, ds, ?_, drops_flds O, by rw [av_bs]; exact argsOkM (fun b z => mut_drops b z) hk ha, ?_⟩
  · refine ⟨fun b mo e => ?_, fun b w e => ?_, fun b z => ?_⟩
    · obtain ⟨h1, h2, h3⟩ := R.m.mem b mo e
      refine ⟨fun z => z.elim h1 fun ⟨i, hi⟩ => (by rw [hi] at h2; cases h2), by unfold drops; rw [h2], ?_⟩
      rw [av_bs]
      exact h3.stepS (Step.refl _ _) (fun _ e => e) fun l f q => ⟨by unfold drops; rw [q], fun _ e => e⟩
    · unfold drops at e
      split at e
      · rename_i q
        cases e
        obtain ⟨h1, h2⟩ := R.m.own b _ q
        exact ⟨fun z => z.elim h1 fun ⟨i, hi⟩ => (by rw [hi] at q; cases q), h2⟩
      · cases e
    · rcases z with z | ⟨i, hi⟩
      · exact R.m.btr b z
      · exact (R.m.own b _ hi).2
  · refine hmf _ _ _ _ _ _ (fun d M' q v H' O' h1 h2 h3 h4 => ?_) (fun C M' q H' O' h1 h2 h3 => ?_) h
    · obtain ⟨R', s', e'⟩ := R.called h1 h3
      refine q v H' _ R' ⟨fun z => (nomatch z), s'⟩ ?_
      rw [e']
      exact h4
    · obtain ⟨R', s', e'⟩ := R.called h1 h3
      refine ⟨C, rfl, rfl, R.exc C M' H' _ (R'.m.subB R.sub) R'.ent ?_⟩
      rw [← R.xe]
      exact q
theorem de_callM {n : Nat} {f : Addr} {fd : FuncData} {ps : List Str} {fs : FS} {x : Str} {pf : Pos} (F : FnG X.prog X.w X.K X.mg X.base n f fd ps (toSp X.K ks fs)) (hmf : MonoF fs) (hr : Room n X.A) (hgd : X.A.guards = some []) (hg : Gl X x) (hm : X.mg x = some (.ref f))
    (hk : PySem.W.keepIn X.K (.ref f) = true) (hb : Binds X.K fd ps []) (ha : DAk false X ks (e :: es) gs) (hv : vks ks = true := by rfl) (hdb : (x == ("__debug__" : Str)) = false := by decide) (he : starEach (e :: es) X.env = (false, eval e X.env) :: starEach es X.env := by rfl)
    (hpl : (backTo pos (starEach es X.env)).any (·.1) = false := by rfl) : DE true false X (.Call (.Name x pf) (e :: es) [] pos) (gCallM fs gs) := by
  refine ⟨⟨fun pins s σ H Q I ⟨B, E, r, M, O, R, q⟩ => ?_⟩, fun r M Q Q' h q => ha.mono _ _ _ _ (fun ds M1 q1 => hmf _ _ _ _ _ _ (fun d M' q2 => h _ _ q2) (fun C M' q2 => q2) q1) q⟩
  refine wpAny_Call_Name_kw (ld_glob I hg hm ?_ hdb)
  have hq := ha.on R q (Q := fun vs H1 => Passes (L2.CX X.prog X.w) X (xk E.W) ∧ toSp X.K ks fs vs H1 Q (xk E.W)) fun ds M1 vs H1 O1 k1 R1 l1 i1 => ⟨R1.ps, callM_pre R1 hv i1 (hmf _ _ _ _ _ _ (fun d M' q2 => LE.go l1 q2) (fun C M' q2 => q2) k1) hmf⟩
  refine PySem.W.callWith_K (h₀ := X.base) I.ok.mod.kin hk (thn (ha.run.run pos pins s σ H _ I hq) fun us s1 ⟨vs, H1, I1, r1, lk, qq⟩ => ⟨I1.kIn, ?_⟩) he hpl
  exact run_fg F hr hgd hb lk I1 r1 qq
end
end DL
set_option Elab.async false
set_option linter.all false
set_option maxRecDepth 100000
namespace DL
open PySem PySem.Spec PyProof.Rows L2
theorem cx_never {P : Program} {w : World} {outer : List Env} {H : Hp} {s : Shared} {e : Value} {s' : Shared} (h : L2.CX P w outer H s (fun _ _ _ => False) e s') : False := by
  obtain ⟨_, _, _, _, _, _, _, _, _, _, _, _, z⟩ := h
  exact z
structure Wor (fa : List He.Fa) (fn : List He.DefD) (K : PySem.W.Frag) (mg : Str → Option Value) : Prop where
  ex : ∃ h : Heap, K.In h ∧ h.Ns mainGlobals mg
  c : He.SaysD fa fn K
section
variable {fa : List He.Fa} {fn : List He.DefD} {K : PySem.W.Frag} {mg : Str → Option Value}
theorem Wor.free (W : Wor fa fn K mg) (i : Nat) {x : Str} (h : fa[i]? = some (.free x) := by rfl) : mg x = none :=
  let ⟨_, X, G⟩ := W.ex
  He.free_ok X G (W.c.fact i h)
theorem Wor.glo (W : Wor fa fn K mg) (i : Nat) {x : Str} (h : fa[i]? = some (.glo x) := by rfl) : mg x = some (.ref (He.ga K x)) :=
  let ⟨_, X, G⟩ := W.ex
  He.glo_ok X G (W.c.fact i h)
theorem Wor.int (W : Wor fa fn K mg) (i : Nat) {x : Str} {n : Int} (h : fa[i]? = some (.int x n) := by rfl) : ∃ t, mg x = some (.int n t) :=
  let ⟨_, X, G⟩ := W.ex
  He.int_ok X G (W.c.fact i h)
theorem Wor.str (W : Wor fa fn K mg) (i : Nat) {x z : Str} (h : fa[i]? = some (.str x z) := by rfl) : ∃ t, mg x = some (.str z t) :=
  let ⟨_, X, G⟩ := W.ex
  He.str_ok X G (W.c.fact i h)
end
/-- a class of its own over ValueError, that may be raised -/
structure ExCls (K : PySem.W.Frag) (mg : Str → Option Value) (x : Str) : Prop where
  g : mg x = some (.ref (He.ga K x))
  e : PySem.W.excIn K (He.ga K x) He.veBase "ValueError.__new__" = true ∧ PySem.W.keepIn K (.ref (He.ga K x)) = true ∧ PySem.W.subIn K (.ref (He.ga K x)) (.type "BaseException") = some true ∧ PySem.W.typeIn K (.ref (He.ga K x)) = some (.type "type")
theorem Wor.exc {fa : List He.Fa} {fn : List He.DefD} {K : PySem.W.Frag} {mg : Str → Option Value} (W : Wor fa fn K mg) (i : Nat) {x : Str} (h : fa[i]? = some (.glo x) := by rfl) (h2 : fa[i + 1]? = some (.exc x) := by rfl) : ExCls K mg x :=
  ⟨W.glo i h, He.exc_ok (W.c.fact (i + 1) h2)⟩
/-- a def's promise by its name -/
structure Def (P : Program) (w : World) (K : PySem.W.Frag) (mg : Str → Option Value) (base : Heap) (n : Nat) (x : Str) (ps : List Str) (ks : List AK) (fs : FS) : Prop where
  ex : ∃ f fd, FnG P w K mg base n f fd ps (toSp K ks fs) ∧ mg x = some (.ref f) ∧ PySem.W.keepIn K (.ref f) = true ∧ Binds K fd ps []
  mo : MonoF fs
theorem Wor.def_ {fa : List He.Fa} {fn : List He.DefD} {K : PySem.W.Frag} {mg : Str → Option Value} {P : Program} {w : World} {base : Heap} {k : Nat} {ks : List AK} {fs : FS} {N ps : List Str} {g : GS} (W : Wor fa fn K mg) (i : Nat) {x : Str} {st : Stmt}
    (S : FnScope N ps (defScope st)) (h : fn[i]? = some ⟨(x, none), x, x, defArgs st, defBody st, defScope st, [], []⟩ := by rfl) (h2 : fa[i]? = some (.glo x) := by rfl) (hk : ks.length = ps.length := by rfl)
    (hbd : ∀ (kV doc pm : Value) (an : Option Addr) (cdv ct : Value) (us : List Value), us.length = ps.length → bindArgs (PySem.W.fnOf x x (defArgs st) (defBody st) (defScope st) .none kV doc pm an cdv ct) ⟨us, []⟩ = pure (ps.zip us))
    (hmo : MonoF fs)
    (hbody : ∀ (f : Addr) (cdv : Value) (A : Around) (outer : List Env) (s : Shared) (H : Hp) (E : XK), Room k (A.deeper (envOfC x (defScope st) s.heap.objs.size f cdv)) → A.guards = some [] →
      DSs (cxOf (L2.CX P w) P w K mg base N x (defScope st) f cdv A outer s H E) (defBody st) g)
    (hfs : ∀ ds M Q X, fs ds M Q X → ds.length = ks.length → g { nx := fun _ M' => Q .non M', rt := Q } (entry N.length ks ds X) M) : Def P w K mg base (k + 1) x ps ks fs := by
  obtain ⟨fd, F⟩ := W.c.def_ i h
  have hx := W.glo i h2
  have F1 : Fun K x x st (He.ga K x) fd := He5.fun_of F
  exact ⟨⟨_, fd, d_fn F1 S hk (hbody (He.ga K x)) hfs, hx, F1.kp, F1.binds hbd⟩, hmo⟩
theorem Def.mono {P : Program} {w : World} {K : PySem.W.Frag} {mg : Str → Option Value} {base : Heap} {j n : Nat} {x : Str} {ps : List Str} {ks : List AK} {fs : FS} (D : Def P w K mg base j x ps ks fs) (h : j ≤ n := by decide) : Def P w K mg base n x ps ks fs :=
  let ⟨f, fd, F, q⟩ := D.ex
  ⟨⟨f, fd, F.mono h, q⟩, D.mo⟩
section
variable {X : Cx} {p : Bool} {e : Expr} {es : List Expr} {gs : GA} {pos pf : Pos} {n : Nat} {x : Str} {ps : List Str} {ks : List AK} {fs : FS}
theorem dc_p (F : Def X.prog X.w X.K X.mg X.base n x ps ks fs) (hr : Room n X.A) (hgd : X.A.guards = some []) (ha : DAk p X ks (e :: es) gs) (hg : Gl X x := by rfl) (hdb : (x == ("__debug__" : Str)) = false := by decide)
    (he : starEach (e :: es) X.env = (false, eval e X.env) :: starEach es X.env := by rfl) (hpl : (backTo pos (starEach es X.env)).any (·.1) = false := by rfl) : DE true p X (.Call (.Name x pf) (e :: es) [] pos) (gCallP fs gs) :=
  let ⟨_, _, F1, hm, hk, hb⟩ := F.ex
  de_callP F1 F.mo hr hgd hg hm hk hb ha hdb he hpl
theorem dc_m (F : Def X.prog X.w X.K X.mg X.base n x ps ks fs) (hr : Room n X.A) (hgd : X.A.guards = some []) (ha : DAk false X ks (e :: es) gs) (hg : Gl X x := by rfl) (hv : vks ks = true := by rfl) (hdb : (x == ("__debug__" : Str)) = false := by decide)
    (he : starEach (e :: es) X.env = (false, eval e X.env) :: starEach es X.env := by rfl) (hpl : (backTo pos (starEach es X.env)).any (·.1) = false := by rfl) : DE true false X (.Call (.Name x pf) (e :: es) [] pos) (gCallM fs gs) :=
  let ⟨_, _, F1, hm, hk, hb⟩ := F.ex
  de_callM F1 F.mo hr hgd hg hm hk hb ha hv hdb he hpl
def gRaise (C : Addr) : GS := fun _ r M => r.ex C M
theorem ds_raise {m : Str} {j : Nat} {p1 p2 : Pos} (T : ExCls X.K X.mg x) (hc : X.calm = true := by rfl) (hg : Gl X x := by rfl) (hdb : (x == ("__debug__" : Str)) = false := by decide) :
    DS X (.Raise (some (.Call (.Name x pf) [.Constant (.str m) j p2] [] p1)) none pos) (gRaise (He.ga X.K x)) := by
  refine ⟨⟨fun pins s σ H D I ⟨B, E, r, M, O, R, q⟩ => ?_⟩, fun D D' r M l q => q⟩
  refine (ps_raise (W := fun cls d _ H => xk E.W cls d H) hc R.lk (pmk_own PySem.F.excBase_ValueError T.e.1 T.g T.e.2.1 (raises_own T.e.2.2.1 T.e.2.2.2) hg hdb)).run pins s σ H D I ⟨_, rfl, rfl, R.exc _ M H O (R.m.subB R.sub) R.ent ?_⟩
  rw [← R.xe]
  exact q
end
theorem dg_int {X : Cx} {p : Bool} {x : Str} {n : Int} {pos : Pos} (h : ∃ t, X.mg x = some (.int n t)) (hg : Gl X x := by rfl) (hd : (x == ("__debug__" : Str)) = false := by decide) : DE true p X (.Name x pos) (gC (.int n)) :=
  let ⟨t, e⟩ := h
  de_glob (v := .int n) hg e ⟨t, rfl⟩ (fun _ _ => .int n) hd
theorem loop_ind {gt : GG} {gb : GS} {D : DEnds} (I : List DL.D → Fr → Mem → Prop) (h0 : ∀ r M, I [] r M → D.nx r M)
    (h1 : ∀ d ds r M, (∀ r M, I ds r M → loopD gt gb ds D r M) → I (d :: ds) r M → gt d r M fun r' M' => gb { D with nx := loopD gt gb ds D, ct := loopD gt gb ds D, bk := D.nx } r' M') :
    ∀ ds r M, I ds r M → loopD gt gb ds D r M
  | [], r, M, h => h0 r M h
  | d :: ds, r, M, h => h1 d ds r M (loop_ind I h0 h1 ds) h
end DL
set_option Elab.async false
set_option linter.all false
set_option maxRecDepth 100000
namespace DL
open PySem PySem.Spec PyProof.Rows L2
section
variable {X : Cx} {w p w1 w2 : Bool} {e a b c : Expr} {es : List Expr} {g ga gb gc : GE} {gf : GF} {gs : GA} {B : Addr → Prop} {E : En} {σ : L2.St} {H H' : Hp} {r : Fr} {M M' : Mem} {O O' : Own} {pos pos' : Pos} {l : Addr}
theorem mut_mup {m : MO} (hm : M l ≠ none) : Mut (mup M l m) O = Mut M O := by
  funext b
  apply propext
  unfold Mut
  by_cases h : b = l
  · subst h; rw [mup_same]; simp [hm]
  · rw [mup_ne h]
theorem av_mup {m : MO} (hm : M l ≠ none) : Av B (mup M l m) O = Av B M O := by
  funext b
  unfold Av
  rw [mut_mup hm]
theorem Rep.mutM (R : Rep X B E σ H r M O) {u : HO} {m m' : MO} (hm : M l = some m) (hu : MOk X.K (Av B M O) (upd H l u) O l m') :
    Rep X B E σ (upd H l u) r (mup M l m') O ∧ Step (Mut M O) H (Mut (mup M l m') O) (upd H l u) := by
  have nm : M l ≠ none := by rw [hm]; simp
  obtain ⟨nB, nO, _⟩ := R.m.mem l m hm
  have mA : Mut M O l := .inl nm
  have keep : ∀ {b : Addr} {o : HO}, b ≠ l → H b = some o → upd H l u b = some o := fun {b o} h e => by rw [upd_ne h]; exact e
  have s : ∀ {A : Addr → Prop}, A l → Step A H A (upd H l u) := fun hA b o e nb => ⟨keep (fun z => nb (by rw [z]; exact hA)) e, nb⟩
  have nown : ∀ {b : Addr} {w : Ow}, O b = some w → b ≠ l := fun {b w} e z => by subst z; rw [nO] at e; cases e
  refine ⟨⟨⟨fun b mo e => ?_, fun b w e => ?_, fun b z => ?_⟩, R.len, fun j sl e => ?_, ?_, R.sub, R.exc, R.lk, R.xe⟩, ?_⟩
  · rw [av_mup nm]
    by_cases hb : b = l
    · subst hb
      rw [mup_same] at e
      cases e
      exact ⟨nB, nO, hu⟩
    · rw [mup_ne hb] at e
      obtain ⟨h1, h2, h3⟩ := R.m.mem b mo e
      exact ⟨h1, h2, h3.stepS (s (.inr mA)) (fun o e => keep hb e) fun l' f q => ⟨q, fun o e => keep (nown q) e⟩⟩
  · obtain ⟨h1, h2⟩ := R.m.own b w e
    refine ⟨h1, ?_⟩
    rw [upd_ne (nown e)]
    exact h2
  · have q := R.m.btr b z
    rw [upd_ne (fun y => nB (by rw [← y]; exact z))]
    exact q
  · show SlU X.K (Av B (mup M l m') O) (Mut (mup M l m') O) O (upd H l u) j _ sl
    rw [av_mup nm, mut_mup nm]
    exact (R.sl j sl e).stepS (s (.inr mA)) (s mA) fun l' q => ⟨q, fun o e => keep (nown q) e⟩
  · rw [mut_mup nm]
    exact R.ent.trans (s mA)
  · rw [mut_mup nm]
    exact s mA
/-- d[k], d in memory (or data) -/
def gMGet (ga gb : GE) : GE := fun r M Q => ga r M fun d M1 => gb r M1 fun e M2 => match d, keyD e with
  | .ref l, some k => (match M2 l with
    | some (.om (.dic kds)) => (match valD kds k with
      | some v => Q v M2
      | none => False)
    | _ => False)
  | .dic kds, some k => (match valD kds k with
    | some v => Q v M2
    | none => False)
  | _, _ => False
theorem de_mget (hu : X.A.units + 1 < cLine) (ha : DE true p X a ga) (hb : DE true p X b gb) (hs : NoSl b := by intro _ _; rfl) : DE true p X (.Subscript a b pos) (gMGet ga gb) := by
  refine ⟨peI (pe_dget hu ha.run hb.run hs) fun σ H Q ⟨B, E, r, M, O, R, q⟩ => ?_, fun r M Q Q' h q => ha.mono _ _ _ _ (fun d M1 q1 => hb.mono _ _ _ _ (fun e M2 q2 => ?_) q1) q⟩
  · refine ha.on R q fun d M1 v H1 O1 k1 R1 l1 i1 => ?_
    refine hb.on R1 k1 fun e M2 u H2 O2 k2 R2 l2 i2 => ?_
    have i1' : Is X.K (Av B M2 O2) H2 v d := Is.step l2.avs i1
    have i2' : Is X.K (Av B M2 O2) H2 u e := i2
    split at k2
    · rename_i l k ek
      cases i1'
      have ku := keyD_kV ek i2'
      subst ku
      split at k2
      · rename_i kds em
        obtain ⟨_, _, kvs, e1, e2⟩ := R2.m.mem _ _ em
        split at k2
        · rename_i v ev
          obtain ⟨x, f1, f2⟩ := (e2.val (k := k)).1 v ev
          exact ⟨_, x, rfl, .inl ⟨kvs, k, .inl e1, rfl, f1.symm⟩, k2 x H2 O2 R2 (l1.trans l2) f2⟩
        · exact k2.elim
      · exact k2.elim
    · rename_i kds k ek
      have ku := keyD_kV ek i2'
      subst ku
      split at k2
      · rename_i v ev
        cases i1' with
        | @dic l kvs _ e1 e2 =>
          obtain ⟨x, f1, f2⟩ := (e2.val (k := k)).1 v ev
          exact ⟨_, x, rfl, .inl ⟨kvs, k, .inr e1.2, rfl, f1.symm⟩, k2 x H2 O2 R2 (l1.trans l2) f2⟩
      · exact k2.elim
    · exact k2.elim
  · split at q2
    · split at q2
      · split at q2
        · exact h _ _ q2
        · exact q2
      · exact q2
    · split at q2
      · exact h _ _ q2
      · exact q2
    · exact q2
/-- d[k] = v, d in memory -/
def gMPut (ga gb gc : GE) : GS := fun D r M => gc r M fun v M1 => ga r M1 fun d M2 => gb r M2 fun e M3 => match d, keyD e with
  | .ref l, some k => (match M3 l with
    | some (.om (.dic kds)) => kds.length < sizeLine ∧ D.nx r (mup M3 l (.om (.dic (putD kds k v))))
    | _ => False)
  | _, _ => False
theorem ds_mput (hu : X.A.units + 1 < cLine) (ha : DE true p X a ga) (hb : DE true p X b gb) (hc : DE true p X c gc) (hs : swapsWith c (some (.Subscript a b pos')) pos.line X.env = pure false := by rfl) : DS X (.Assign [.Subscript a b pos'] c pos) (gMPut ga gb gc) := by
  refine ⟨psI (ps_dput hu ha.run hb.run hc.run hs) fun D σ H ⟨B, E, r, M, O, R, q⟩ => ?_, fun D D' r M l q => hc.mono _ _ _ _ (fun v M1 q1 => ha.mono _ _ _ _ (fun d M2 q2 => hb.mono _ _ _ _ (fun e M3 q3 => ?_) q2) q1) q⟩
  · refine hc.on R q fun z M1 x H1 O1 k1 R1 l1 i1 => ?_
    refine ha.on R1 k1 fun d M2 v H2 O2 k2 R2 l2 i2 => ?_
    refine hb.on R2 k2 fun e M3 u H3 O3 k3 R3 l3 i3 => ?_
    have i1' : Is X.K (Av B M3 O3) H3 x z := Is.step (l2.trans l3).avs i1
    have i2' : Is X.K (Av B M3 O3) H3 v d := Is.step l3.avs i2
    have i3' : Is X.K (Av B M3 O3) H3 u e := i3
    split at k3
    · rename_i l k ek
      cases i2'
      have ku := keyD_kV ek i3'
      subst ku
      split at k3
      · rename_i kds em
        obtain ⟨_, _, kvs, e1, e2⟩ := R3.m.mem _ _ em
        refine ⟨_, _, rfl, .inl ⟨kvs, k, e1, rfl, by rw [e2.len]; exact k3.1, rfl⟩, ?_⟩
        refine k3.2 _ _ O3 (R3.mutM (m' := .om (.dic (putD kds k z))) em ⟨putK kvs k x, upd_same, ?_⟩).1
        refine IsK.step (fun b o eb nb => ⟨?_, nb⟩) (e2.put i1')
        rw [upd_ne fun z => nb (by rw [z]; exact .inr (.inl (by rw [em]; simp)))]
        exact eb
      · exact k3.elim
    · exact k3.elim
  · split at q3
    · split at q3
      · exact ⟨q3.1, l.nx _ _ q3.2⟩
      · exact q3
    · exact q3
abbrev GPs := Fr → Mem → (List (Key × D) → Mem → Prop) → Prop
structure DPs (p : Bool) (X : Cx) (pos : Pos) (keys : List (Option Expr)) (values : List Expr) (g : GPs) : Prop where
  ex : ∃ trs, PPs X pos keys values trs ∧ ∀ B E σ H r M O k Q, Rep X B E σ H r M O → g r M k →
    (∀ kds M1 H1 O1 kvs, k kds M1 → Rep X B E σ H1 r M1 O1 → Rl p M O H M1 O1 H1 → IsK X.K (Av B M1 O1) H1 kvs kds → Q (kvs.map fun kv => (kV kv.1, kv.2)) H1) → tPairs trs σ H Q
  mono : ∀ r M Q Q', (∀ d M', Q d M' → Q' d M') → g r M Q → g r M Q'
  len : ∀ r M Q, g r M Q → g r M fun ds M1 => ds.length = keys.length ∧ Q ds M1
def gPnil : GPs := fun r M Q => Q [] M
def gPcons (x : Str) (g : GE) (gs : GPs) : GPs := fun r M Q => g r M fun d M1 => gs r M1 fun kds M2 => Q ((.inr x, d) :: kds) M2
theorem dps_nil : DPs p X pos [] [] gPnil := ⟨⟨[], pps_nil, fun B E σ H r M O k Q R q h => h [] M H O [] q R Rl.refl .nil⟩, fun r M Q Q' h q => h _ _ q, fun r M Q q => ⟨rfl, q⟩⟩
theorem dps_cons {x : Str} {j : Nat} {kp : Pos} {ks : List (Option Expr)} {gp : GPs} (ha : DE true p X a ga) (hr : DPs p X pos ks es gp) : DPs p X pos (some (.Constant (.str x) j kp) :: ks) (a :: es) (gPcons x ga gp) := by
  obtain ⟨trs, h1, h2⟩ := hr.ex
  refine ⟨⟨_, pps_cons (pe_str (pos := kp)) ha.run h1, fun B E σ H r M O k Q R q h => ?_⟩, fun r M Q Q' h q => ha.mono _ _ _ _ (fun d M1 q1 => hr.mono _ _ _ _ (fun kds M2 q2 => h _ _ q2) q1) q,
    fun r M Q q => ha.mono _ _ _ _ (fun d M1 q1 => hr.mono _ _ _ _ (fun kds M2 q2 => ⟨congrArg (· + 1) q2.1, q2.2⟩) (hr.len _ _ _ q1)) q⟩
  refine ha.on R q fun d M1 v H1 O1 k1 R1 l1 i1 => ?_
  refine h2 B E σ H1 r M1 O1 _ _ R1 k1 fun kds M2 H2 O2 kvs k2 R2 l2 i2 => ?_
  exact h ((.inr x, d) :: kds) M2 H2 O2 ((.inr x, v) :: kvs) k2 R2 (l1.trans l2) (.cons (Is.step l2.avs i1) i2)
def gDisp (gp : GPs) : GF := fun r M Q => gp r M fun kds M1 => Q (.dic (mergeD [] kds)) M1
theorem df_disp {keys : List (Option Expr)} {gp : GPs} (h : DPs p X pos keys es gp) (hall : keys.all (·.isSome) = true := by rfl) (hl : keys.length = es.length := by rfl) (h0 : keys ≠ [] := by simp) (h15 : keys.length ≤ 15 := by decide) : DF p X (.Dict keys es pos) (gDisp gp) := by
  obtain ⟨trs, h1, h2⟩ := h.ex
  refine ⟨peI (pe_disp h1 hall hl h0 h15) fun σ H Q ⟨B, E, r, M, O, R, q⟩ => ?_, fun r M Q Q' hh q => h.mono r M _ _ (fun kds M1 q1 => hh _ _ q1) q⟩
  intro a n
  have N := New.of R n (o := .dK [])
  refine h2 (Bp B a) E σ (upd H a (.dK [])) r M O _ _ N.rep (h.len _ _ _ q) fun kds M1 H1 O1 kvs k1 R1 l1 i1 => ?_
  have eb : H1 a = some (.dK []) := (l1.2 a _ upd_same fun z => N.nav (.inr z)).1
  have N1 : New X B E σ H1 r M1 O1 a := N.next (l := l1) R1 (by rw [upd_same]; simp)
  refine ⟨eb, kvs, rfl, by rw [i1.len, k1.1]; exact h15, ?_⟩
  have s1 : Step (Up (Av B M1 O1) a) H1 (Up (Av B M1 O1) a) (upd H1 a (.dK (mergeK [] kvs))) := fun b o e nb => ⟨by rw [upd_ne (fun z => nb (.inr z))]; exact e, nb⟩
  have s2 : Step (Up (Mut M1 O1) a) H1 (Up (Mut M1 O1) a) (upd H1 a (.dK (mergeK [] kvs))) := fun b o e nb => ⟨by rw [upd_ne (fun z => nb (.inr z))]; exact e, nb⟩
  have nOM : ∀ b, Mut M1 O1 b → b ≠ a := fun b z y => N1.nav (.inr (by rw [← y]; exact z))
  have keep : ∀ {b : Addr} {o : HO}, b ≠ a → H1 b = some o → upd H1 a (.dK (mergeK [] kvs)) b = some o := fun {b o} h e => by rw [upd_ne h]; exact e
  have N2 : New X B E σ (upd H1 a (.dK (mergeK [] kvs))) r M1 O1 a := by
    refine ⟨⟨fun b mo e => ?_, fun b w e => ?_, fun b z => ?_⟩, N1.len, fun i sl e => (N1.sl i sl e).stepS s1 s2 fun l q => ⟨q, fun o e => keep (nOM l (.inr (by rw [q]; simp))) e⟩, N1.ent.trans s2, N1.sub, N1.exc, N1.lk, N1.xe, N1.nav⟩
    · obtain ⟨f1, f2, f3⟩ := N1.m.mem b mo e
      refine ⟨f1, f2, ?_⟩
      rw [av_up] at f3 ⊢
      exact f3.stepS s1 (fun o e => keep (nOM b (.inl (by rw [‹M1 b = some mo›]; simp))) e) fun l f q => ⟨q, fun o e => keep (nOM l (.inr (by rw [q]; simp))) e⟩
    · obtain ⟨f1, f2⟩ := N1.m.own b w e
      refine ⟨f1, ?_⟩
      rw [upd_ne (nOM b (.inr (by rw [e]; simp)))]
      exact f2
    · have f := N1.m.btr b z
      by_cases hb : b = a
      · rw [hb, upd_same]; simp
      · rw [upd_ne hb]; exact f
  refine k1.2 a _ O1 N2 ?_ ⟨mergeK [] kvs, upd_same, ?_⟩
  · refine ⟨fun hp => ?_, ?_⟩
    · obtain ⟨e1, e2, e3⟩ := l1.1 hp
      refine ⟨e1, e2, fun b o e => ?_⟩
      have nb : b ≠ a := ne_of_none e n
      rw [upd_ne nb]
      exact e3 b o (by rw [upd_ne nb]; exact e)
    · intro b o e nb
      have ne : b ≠ a := ne_of_none e n
      have f := l1.2 b o (by rw [upd_ne ne]; exact e) nb
      exact ⟨by rw [upd_ne ne]; exact f.1, f.2⟩
  · have i2 := i1.merge (kvs := []) (kds := []) .nil
    rw [av_up] at i2
    exact i2.step s1
theorem av_mupN {m : MO} : Av B (mup M l m) O = Up (Av B M O) l := by
  funext b
  apply propext
  unfold Av Mut Up
  by_cases h : b = l
  · subst h; rw [mup_same]; simp
  · rw [mup_ne h]; simp [h, Av, Mut]
theorem mut_mupN {m : MO} : Mut (mup M l m) O = Up (Mut M O) l := by
  funext b
  apply propext
  unfold Mut Up
  by_cases h : b = l
  · subst h; rw [mup_same]; simp
  · rw [mup_ne h]; simp [h, Mut]
theorem New.toMem (N : New X B E σ H r M O l) {m : MO} (hm : MOk X.K (Up (Av B M O) l) H O l m) : Rep X B E σ H r (mup M l m) O := by
  have nO : O l = none := by
    cases e : O l with
    | none => rfl
    | some w => exact (N.nav (.inr (.inr (by rw [e]; simp)))).elim
  refine ⟨⟨fun b mo e => ?_, fun b w e => ?_, fun b z => N.m.btr b (.inl z)⟩, N.len, fun j sl e => ?_, ?_, N.sub, N.exc, N.lk, N.xe⟩
  · rw [av_mupN]
    by_cases hb : b = l
    · subst hb
      rw [mup_same] at e
      cases e
      exact ⟨fun z => N.nav (.inl z), nO, hm⟩
    · rw [mup_ne hb] at e
      obtain ⟨h1, h2, h3⟩ := N.m.mem b mo e
      rw [av_up] at h3
      exact ⟨fun z => h1 (.inl z), h2, h3⟩
  · obtain ⟨h1, h2⟩ := N.m.own b w e
    exact ⟨fun z => h1 (.inl z), h2⟩
  · show SlU X.K (Av B (mup M l m) O) (Mut (mup M l m) O) O H j _ sl
    rw [av_mupN, mut_mupN]
    exact N.sl j sl e
  · rw [mut_mupN]
    exact N.ent
def gRetM (gf : GF) : GS := fun D r M => gf r M fun m M1 => ∀ a, M1 a = none → D.rt (.ref a) (mup M1 a (.om m))
theorem New.mnone (N : New X B E σ H r M O l) : M l = none := by
  cases e : M l with
  | none => rfl
  | some w => exact (N.nav (.inr (.inl (by rw [e]; simp)))).elim
theorem ds_retM (he : DF p X e gf) : DS X (.Return (some e) pos) (gRetM gf) := by
  refine ⟨psI (ps_ret he.run) fun D σ H ⟨B, E, r, M, O, R, q⟩ => ?_, fun D D' r M l q => he.mono _ _ _ _ (fun m M1 q1 a h => l.rt _ _ (q1 a h)) q⟩
  refine he.on R q fun m M1 a H1 O1 k1 N1 l1 i1 => ?_
  have R1 := N1.toMem (m := .om m) i1
  exact k1 a N1.mnone (.ref a) H1 O1 R1.m R1.ent (.ref a)
def gSetM (i : Nat) (gf : GF) : GS := fun D r M => gf r M fun m M1 => ∀ a, M1 a = none → D.nx (r.set i (.v (.ref a))) (mup M1 a (.om m))
end
theorem st_open {K : PySem.W.Frag} {B : Addr → Prop} {H : Hp} {M : Mem} {O : Own} {a : Addr} (m : MemOk K B H M O) (h : M a = some .st) : ∃ kds, StOk kds ∧ MemOk K B H (mup M a (.om (.dic kds))) O := by
  have nm : M a ≠ none := by rw [h]; simp
  obtain ⟨h1, h2, kds, h3, h4⟩ := m.mem a _ h
  refine ⟨kds, h3, fun b mo e => ?_, m.own, m.btr⟩
  rw [av_mup nm]
  by_cases hb : b = a
  · subst hb
    rw [mup_same] at e
    cases e
    exact ⟨h1, h2, h4⟩
  · rw [mup_ne hb] at e
    exact m.mem b mo e
theorem st_close {K : PySem.W.Frag} {B : Addr → Prop} {H : Hp} {M : Mem} {O : Own} {a : Addr} {kds : List (Key × D)} (m : MemOk K B H (mup M a (.om (.dic kds))) O) (h : StOk kds) : MemOk K B H (mup M a .st) O := by
  have e2 : mup M a .st = mup (mup M a (.om (.dic kds))) a .st := mup_mup.symm
  rw [e2]
  have nm : (mup M a (.om (.dic kds))) a ≠ none := by rw [mup_same]; simp
  obtain ⟨h1, h2, h4⟩ := m.mem a _ mup_same
  refine ⟨fun b mo e => ?_, m.own, m.btr⟩
  rw [av_mup nm]
  by_cases hb : b = a
  · subst hb
    rw [mup_same] at e
    cases e
    exact ⟨h1, h2, kds, h, h4⟩
  · rw [mup_ne hb] at e
    exact m.mem b mo e
end DL
set_option Elab.async false
set_option linter.all false
set_option maxRecDepth 100000
namespace PySem
open Sem (wp)
end PySem
namespace DL
open PySem PySem.Spec PyProof.Rows L2
def iSeq (K : PySem.W.Frag) (tl : TE) : TI := fun σ H R => tl σ H fun v H1 => ∃ (a : Addr) (xs : List V), v = .ref a ∧ ((SqL K H1 a xs ∧ R (Itl K a) H1) ∨ (SqT K H1 a xs ∧ R (Itt K a) H1))
section
variable {X : Cx} {tg e : Expr} {te : TE}
theorem pi_seq (he : PE X e te) : PI X tg e (iSeq X.K te) := by
  refine ⟨fun pins s σ H R I h => thn (he.run pins s σ H _ I h) fun u s1 ⟨v, H1, I1, r1, a, xs, ev, q⟩ => ?_⟩
  subst ev
  cases r1
  have fr : ∀ b ∈ [s1.heap.objs.size], FpOk X pins H1 b := fun b hb => by
    rw [List.mem_singleton.mp hb]
    exact I1.fpOk (Nat.le_refl _) (I1.hok.fresh (Nat.le_refl _))
  rcases q with ⟨hq, q⟩ | ⟨hq, q⟩
  · obtain ⟨its, rv, p, hz⟩ := I1.list hq
    exact wpAny_pyIter_list p.isList ⟨s1.heap.objs.size, [s1.heap.objs.size], _, _, H1, rfl, I1.kept (t' := s1.toks) fun b o z => Heap.get?_push_of_some _ z, turn_list a _, ⟨_, Heap.get?_push_size _ rfl, rfl, rfl⟩, fr, q⟩
  · obtain ⟨its, rv, p, hz⟩ := I1.tuple hq
    exact wpAny_pyIter_tuple (show s1.heap.IsTuple a its.toArray from p) ⟨s1.heap.objs.size, [s1.heap.objs.size], _, _, H1, rfl, I1.kept (t' := s1.toks) fun b o z => Heap.get?_push_of_some _ z, turn_tuple a _, ⟨_, Heap.get?_push_size _ rfl, rfl, rfl⟩, fr, q⟩
end
section
variable {X : Cx} {w p : Bool} {e a b iter tg : Expr} {es : List Expr} {g ga gb : GE} {gs : GA} {B : Addr → Prop} {E : En} {σ : L2.St} {H H' H1 : Hp} {r : Fr} {M M' M1 : Mem} {O O' O1 : Own} {pos pos' : Pos}
def enumD : Nat → List D → List D
  | _, [] => []
  | i, d :: ds => .tup [.int (i : Nat), d] :: enumD (i + 1) ds
def zipD : List D → List D → List D
  | x :: xs, y :: ys => .tup [x, y] :: zipD xs ys
  | _, _ => []
/-- what a list or tuple holds -/
def itsD (f : List D → List D) (ga : GE) : GI := fun r M Q => ga r M fun d M1 => match d with
  | .lst ds => Q (f ds) M1
  | .tup ds => Q (f ds) M1
  | _ => False
theorem itsD_mono {f : List D → List D} (ha : ∀ r M Q Q', (∀ d M', Q d M' → Q' d M') → ga r M Q → ga r M Q') : ∀ r M Q Q', (∀ d M', Q d M' → Q' d M') → itsD f ga r M Q → itsD f ga r M Q' := fun r M Q Q' h q => ha _ _ _ _ (fun d M1 q1 => by
  split at q1
  · exact h _ _ q1
  · exact h _ _ q1
  · exact q1) q
theorem di_seq (ha : DE true p X iter ga) : DI p X tg iter (itsD (fun ds => ds) ga) where
  ex := ⟨_, pi_seq ha.run, fun B E σ H r M O k R' R q hR => by
    refine ha.on R q fun d M1 v H1 O1 k1 R1 l1 i1 => ?_
    have i1 : Is X.K (Av B M1 O1) H1 v d := i1
    split at k1
    · cases i1 with
      | @lst a vs _ h l => exact ⟨a, vs, rfl, .inl ⟨SqL.of h.2, hR _ M1 H1 O1 _ k1 R1 l1 (walk_lst (lst_mut h) l)⟩⟩
    · cases i1 with
      | @tup a vs _ h l => exact ⟨a, vs, rfl, .inr ⟨h.sq, hR _ M1 H1 O1 _ k1 R1 l1 (walk_tup (tup_mut h) l)⟩⟩
    · exact k1.elim⟩
  mono := itsD_mono ha.mono
def giZip (gs : GA) : GI := fun r M Q => gs r M fun ds M1 => match ds with
  | [.lst xs, .lst ys] => Q (zipD xs ys) M1
  | [.tup xs, .tup ys] => Q (zipD xs ys) M1
  | _ => False
end
end DL
set_option Elab.async false
set_option linter.all false
set_option maxRecDepth 100000
namespace PySem
open AutoSeq1 (wpAny_loadPart')
end PySem
namespace DL
open PySem PySem.Spec PySem.W PyProof.Rows L2
section
variable {X : Cx} {w p w1 w2 : Bool} {e a b c : Expr} {es : List Expr} {g ga gb gc : GE} {gf : GF} {gs : GA} {B : Addr → Prop} {E : En} {σ : L2.St} {H H' : Hp} {r : Fr} {M M' : Mem} {O O' : Own} {pos pos' : Pos}
def goIsB (neg : Bool) : GO := fun d e M Q => match d, e with
  | .bl x, .bl y => Q (.bl (xor neg (decide (x = y)))) M
  | _, _ => False
def gIPut (i : Nat) (gi ge : GE) : GS := fun D r M => ge r M fun d M1 => match r.sl[i]? with
  | some (.o (.lst ds)) => gi r M1 fun k M2 => match k with
    | .int k => (match ixN ds.length k with
      | some j => D.nx (r.set i (.o (.lst (ds.set j d)))) M2
      | none => False)
    | _ => False
  | _ => False
theorem pyL_get : ∀ {ds : List D} {i : Nat} {z : PyData}, (D.pyL ds)[i]? = some z → ∃ d, ds[i]? = some d ∧ z = d.py
  | [], _, _, h => by simp [D.pyL] at h
  | d :: r, 0, z, h => ⟨d, rfl, by simpa [D.pyL] using h.symm⟩
  | d :: r, i + 1, z, h => by
    obtain ⟨x, h1, h2⟩ := pyL_get (ds := r) (i := i) (z := z) (by simpa [D.pyL] using h)
    exact ⟨x, by simpa using h1, h2⟩
theorem pyL_get' : ∀ {ds : List D} {i : Nat} {d : D}, ds[i]? = some d → (D.pyL ds)[i]? = some d.py
  | [], _, _, h => by simp at h
  | d :: r, 0, z, h => by simp at h; subst h; rfl
  | d :: r, i + 1, z, h => by
    have := pyL_get' (ds := r) (i := i) (d := z) (by simpa using h)
    simpa [D.pyL] using this
/-- the first one equal to e -/
def ixD : List D → D → Nat → Option Nat
  | [], _, _ => none
  | d :: r, e, k => if d.eqv e = true then some k else ixD r e (k + 1)
theorem ixD_spec {e : D} : ∀ {ds : List D} {k j : Nat}, ixD ds e k = some j → k ≤ j ∧ (∃ d, ds[j - k]? = some d ∧ d.eqv e = true) ∧ ∀ m d, m < j - k → ds[m]? = some d → d.eqv e = false
  | [], _, _, h => by simp [ixD] at h
  | d :: r, k, j, h => by
    unfold ixD at h
    by_cases c : d.eqv e = true
    · rw [if_pos c] at h
      cases h
      exact ⟨Nat.le_refl _, ⟨d, by simp, c⟩, fun m _ hm => by omega⟩
    · rw [if_neg c] at h
      obtain ⟨h1, ⟨x, h2, h3⟩, h4⟩ := ixD_spec (ds := r) h
      refine ⟨by omega, ⟨x, ?_, h3⟩, fun m y hm hy => ?_⟩
      · rw [show j - k = (j - (k + 1)) + 1 by omega]
        simpa using h2
      · cases m with
        | zero =>
          simp at hy
          subst hy
          simpa using c
        | succ m => exact h4 m y (by omega) (by simpa using hy)
/-- .. in a tuple of ints -/
def ixT (ds : List D) (e : D) (k : Nat → Prop) : Prop := match intsOf ds, e with
  | some ns, .int i => i ∈ ns ∧ k (ns.idxOf i)
  | _, _ => False
theorem ixT_mono {ds : List D} {e : D} {k k' : Nat → Prop} (h : ∀ j, k j → k' j) (q : ixT ds e k) : ixT ds e k' := by
  unfold ixT at q ⊢
  split at q
  · exact ⟨q.1, h _ q.2⟩
  · exact q.elim
def gIdx (ga gb : GE) : GE := fun r M Q => ga r M fun d M1 => match d with
  | .lst ds => gb r M1 fun e M2 => (D.ok (.lst ds) = true ∧ e.ok = true) ∧ (match ixD ds e 0 with
    | some j => Q (.int (j : Nat)) M2
    | none => False)
  | .tup ds => gb r M1 fun e M2 => ixT ds e fun j => Q (.int (j : Nat)) M2
  | _ => False
theorem gIdx_mono (ha : ∀ r M Q Q', (∀ d M', Q d M' → Q' d M') → ga r M Q → ga r M Q') (hb : ∀ r M Q Q', (∀ d M', Q d M' → Q' d M') → gb r M Q → gb r M Q') : ∀ r M Q Q', (∀ d M', Q d M' → Q' d M') → gIdx ga gb r M Q → gIdx ga gb r M Q' := fun r M Q Q' h q =>
  ha _ _ _ _ (fun d M1 q1 => by
    split at q1
    · refine hb _ _ _ _ (fun e M2 q2 => ⟨q2.1, ?_⟩) q1
      have q3 := q2.2
      split at q3
      · exact h _ _ q3
      · exact q3
    · exact hb _ _ _ _ (fun e M2 q2 => ixT_mono (fun _ q3 => h _ _ q3) q2) q1
    · exact q1) q
theorem de_index {nm : Str} {apos cpos : Pos} (hnm : nm = "index" := by rfl) (hu : X.A.units + 65 < cLine) (ha : DE true p X a ga) (hb : DE true p X b gb)
    (hbase : attributeBase a "index" X.env (eval a X.env) = eval a X.env := by rfl)
    (hfew : ((backTo cpos (starEach [b] X.env)).all (fun x => !x.1) && (backToKw cpos (keywordEach [] X.env)).all (fun x => x.1.isSome)
      && decide ([b].length + ([] : List Keyword).length + (if ([] : List Keyword).isEmpty then 0 else 1) < 30)) = true := by rfl)
    (hline : (apos.endLine == cpos.line) = true := by rfl) (hs : starEach [b] X.env = (false, eval b X.env) :: starEach [] X.env := by rfl) (hplain : (backTo cpos (starEach [] X.env)).any (·.1) = false := by rfl) :
    DE true p X (.Call (.Attribute a nm apos) [b] [] cpos) (gIdx ga gb) := by
  subst hnm
  refine ⟨peI (pe_idxA hu ha.run (da_one hb hs).run hbase hfew hline hs hplain) fun σ H Q ⟨B, E, r, M, O, R, q⟩ => ?_, gIdx_mono ha.mono hb.mono⟩
  refine ha.on R q fun d M1 v H1 O1 k1 R1 l1 i1 => ?_
  have i1 : Is X.K (Av B M1 O1) H1 v d := i1
  split at k1
  · rename_i ds _
    cases i1 with
    | @lst l vs _ h l3 =>
      refine .inl ⟨.inl ⟨rfl, _, SqL.of h.2⟩, ?_⟩
      refine (da_one hb hs).on R1 (k := fun zs M2 => ∃ e, zs = [e] ∧ (D.ok (.lst ds) = true ∧ e.ok = true) ∧ (match ixD ds e 0 with
        | some j => LE true p X B E σ r H M O Q (.int (j : Nat)) M2
        | none => False)) (hb.mono _ _ _ _ (fun e M2 q2 => ⟨e, rfl, q2⟩) k1) fun zs M2 us H2 O2 k2 R2 l2 i2 => ?_
      obtain ⟨e, rfl, ⟨ok1, ok2⟩, k2⟩ := k2
      split at k2
      · rename_i j ej
        obtain ⟨_, ⟨z, hz, hze⟩, hno⟩ := ixD_spec ej
        have jj := isXL_strong i2
        cases jj with
        | @cons u _ _ _ iu t =>
          cases t
          have iL : Is X.K (Av B M2 O2) H2 (.ref l) (.lst ds) := Is.step l2.avs (.lst h l3)
          have dp1 := iL.dp (ok_and ok1).1
          refine ⟨l, u, e.py, D.pyL ds, j, z.py, rfl, rfl, dp1, iu.dp (ok_and ok2).1, (ok_and ok1).2, (ok_and ok2).2, pyL_get' hz, hze, fun m z' hm hz' => ?_, fin_v R2 (.int _) fun v3 H3 O3 R3 l4 i3 => k2 v3 H3 O3 R3 ((l1.trans l2).trans l4.weak) i3⟩
          obtain ⟨y, hy, rfl⟩ := pyL_get hz'
          exact hno m y (by omega) hy
      · exact k2.elim
  · rename_i ds _
    cases i1 with
    | @tup l vs _ h l3 =>
      refine .inr ⟨⟨l, vs, rfl, h.tk⟩, ?_⟩
      refine (da_one hb hs).on R1 (k := fun zs M2 => ∃ e, zs = [e] ∧ ixT ds e fun j => LE true p X B E σ r H M O Q (.int (j : Nat)) M2) (hb.mono _ _ _ _ (fun e M2 q2 => ⟨e, rfl, q2⟩) k1) fun zs M2 us H2 O2 k2 R2 l2 i2 => ?_
      obtain ⟨e, rfl, k2⟩ := k2
      unfold ixT at k2
      split at k2
      · rename_i ns i en
        have jj := isXL_strong i2
        cases jj with
        | @cons u _ _ _ iu t =>
          cases t
          cases iu
          have iL : Is X.K (Av B M2 O2) H2 (.ref l) (.tup ds) := Is.step l2.avs (.tup h l3)
          cases iL with
          | @tup _ vs2 _ h2 l4 =>
            refine ⟨l, ns, i, rfl, rfl, by rw [← of_intsOf l4 en]; exact h2.sq, k2.1, fin_v R2 (.int _) fun v3 H3 O3 R3 l5 i3 => k2.2 v3 H3 O3 R3 ((l1.trans l2).trans l5.weak) i3⟩
      · exact k2.elim
  · exact k1.elim
theorem alike_ints (ns : List Int) : AlikeAll (ns.map PyData.int) := by
  refine ⟨fun x hx y hy => ?_, fun x hx => ?_⟩
  · obtain ⟨a, _, rfl⟩ := List.mem_map.mp hx
    obtain ⟨b, _, rfl⟩ := List.mem_map.mp hy
    rfl
  · obtain ⟨a, _, rfl⟩ := List.mem_map.mp hx
    exact fun z => nomatch z
theorem depth_ints : ∀ ns : List Int, PyData.depthAll (ns.map PyData.int) = 0
  | [] => rfl
  | n :: r => by simp only [List.map_cons, PyData.depthAll, PyData.depth, depth_ints r]; rfl
theorem dp_ints {K : PySem.W.Frag} : ∀ ns : List Int, DpAll K H (ns.map V.int) (ns.map PyData.int)
  | [] => .nil
  | n :: r => .cons (.int n) (dp_ints r)
theorem foldmin (ns : List Int) : ∀ n : Int, ns.foldl min n ∈ n :: ns ∧ ∀ y ∈ n :: ns, ns.foldl min n ≤ y := by
  induction ns with
  | nil => exact fun n => ⟨List.mem_cons_self .., fun y hy => by rw [List.mem_singleton.mp hy]; exact Int.le_refl _⟩
  | cons m r ih =>
    intro n
    obtain ⟨h1, h2⟩ := ih (min n m)
    rw [List.foldl_cons]
    have h3 := h2 _ (List.mem_cons_self ..)
    refine ⟨?_, fun y hy => ?_⟩
    · rcases List.mem_cons.mp h1 with e | e
      · rw [e]
        rcases Int.le_total n m with z | z
        · rw [Int.min_eq_left z]; exact List.mem_cons_self ..
        · rw [Int.min_eq_right z]; exact List.mem_cons_of_mem _ (List.mem_cons_self ..)
      · exact List.mem_cons_of_mem _ (List.mem_cons_of_mem _ e)
    · rcases List.mem_cons.mp hy with rfl | hy
      · exact Int.le_trans h3 (Int.min_le_left _ _)
      · rcases List.mem_cons.mp hy with rfl | hy
        · exact Int.le_trans h3 (Int.min_le_right _ _)
        · exact h2 y (List.mem_cons_of_mem _ hy)
theorem foldmax (ns : List Int) : ∀ n : Int, ns.foldl max n ∈ n :: ns ∧ ∀ y ∈ n :: ns, y ≤ ns.foldl max n := by
  induction ns with
  | nil => exact fun n => ⟨List.mem_cons_self .., fun y hy => by rw [List.mem_singleton.mp hy]; exact Int.le_refl _⟩
  | cons m r ih =>
    intro n
    obtain ⟨h1, h2⟩ := ih (max n m)
    rw [List.foldl_cons]
    have h3 := h2 _ (List.mem_cons_self ..)
    refine ⟨?_, fun y hy => ?_⟩
    · rcases List.mem_cons.mp h1 with e | e
      · rw [e]
        rcases Int.le_total n m with z | z
        · rw [Int.max_eq_right z]; exact List.mem_cons_of_mem _ (List.mem_cons_self ..)
        · rw [Int.max_eq_left z]; exact List.mem_cons_self ..
      · exact List.mem_cons_of_mem _ (List.mem_cons_of_mem _ e)
    · rcases List.mem_cons.mp hy with rfl | hy
      · exact Int.le_trans (Int.le_max_left _ _) h3
      · rcases List.mem_cons.mp hy with rfl | hy
        · exact Int.le_trans (Int.le_max_right _ _) h3
        · exact h2 y (List.mem_cons_of_mem _ hy)
theorem reads_int {h : Heap} {v : Value} {n : Int} {as : List Addr} (r : Reads h v (.int n) as) : ∃ t, v = .int n t := by
  cases r
  exact ⟨_, rfl⟩
theorem cr_minT (hc : X.calm = true) (hu : X.A.units + 1 < cLine) : CallR X (.builtin "min") (fun vs H Q => ∃ (a : Addr) (ns : List Int), vs = [V.ref a] ∧ SqT X.K H a (ns.map V.int) ∧ 0 < ns.length ∧ ∀ m, m ∈ ns → (∀ y, y ∈ ns → m ≤ y) → Q (.int m) H) := by
  intro pins s σ H vs us Q I r h
  obtain ⟨a, ns, rfl, hs, h0, q⟩ := h
  obtain ⟨its, rv, pt, _⟩ := I.tuple hs
  rw [Vals.ref1 r]
  cases ns with
  | nil => exact absurd h0 (by simp)
  | cons n ns =>
    obtain ⟨as, rs⟩ := Dp.readsAll I _ _ its (dp_ints (K := X.K) (H := H) (n :: ns)) rv
    refine min_tuple_data (vs := its.toArray) (I.ok.hd hc) pt (show ReadsAll s.heap its.toArray.toList (PyData.int n :: ns.map .int) as from rs) (alike_ints (n :: ns)) (by have := depth_ints (n :: ns); rw [List.map_cons] at this; rw [this]; exact hu) fun i v h' tk bs _ rd hk => ?_
    rw [minD_ints] at rd
    obtain ⟨t, rfl⟩ := reads_int rd
    obtain ⟨f1, f2⟩ := foldmin ns n
    exact ⟨.int _, H, I.kept hk, ⟨t, rfl⟩, q _ f1 f2⟩
theorem cr_maxT (hc : X.calm = true) (hu : X.A.units + 1 < cLine) : CallR X (.builtin "max") (fun vs H Q => ∃ (a : Addr) (ns : List Int), vs = [V.ref a] ∧ SqT X.K H a (ns.map V.int) ∧ 0 < ns.length ∧ ∀ m, m ∈ ns → (∀ y, y ∈ ns → y ≤ m) → Q (.int m) H) := by
  intro pins s σ H vs us Q I r h
  obtain ⟨a, ns, rfl, hs, h0, q⟩ := h
  obtain ⟨its, rv, pt, _⟩ := I.tuple hs
  rw [Vals.ref1 r]
  cases ns with
  | nil => exact absurd h0 (by simp)
  | cons n ns =>
    obtain ⟨as, rs⟩ := Dp.readsAll I _ _ its (dp_ints (K := X.K) (H := H) (n :: ns)) rv
    refine max_tuple_data (vs := its.toArray) (I.ok.hd hc) pt (show ReadsAll s.heap its.toArray.toList (PyData.int n :: ns.map .int) as from rs) (alike_ints (n :: ns)) (by have := depth_ints (n :: ns); rw [List.map_cons] at this; rw [this]; exact hu) fun i v h' tk bs _ rd hk => ?_
    rw [maxD_ints] at rd
    obtain ⟨t, rfl⟩ := reads_int rd
    obtain ⟨f1, f2⟩ := foldmax ns n
    exact ⟨.int _, H, I.kept hk, ⟨t, rfl⟩, q _ f1 f2⟩
def gcMinA : GC := fun ds M Q => match ds with
  | [.lst xs] => ∃ ns, intsOf xs = some ns ∧ 0 < ns.length ∧ ∀ m, m ∈ ns → (∀ y ∈ ns, m ≤ y) → Q (.int m) M
  | [.tup xs] => ∃ ns, intsOf xs = some ns ∧ 0 < ns.length ∧ ∀ m, m ∈ ns → (∀ y ∈ ns, m ≤ y) → Q (.int m) M
  | [.int i, .int j] => Q (.int (if j < i then j else i)) M
  | _ => False
def gcMaxA : GC := fun ds M Q => match ds with
  | [.lst xs] => ∃ ns, intsOf xs = some ns ∧ 0 < ns.length ∧ ∀ m, m ∈ ns → (∀ y ∈ ns, y ≤ m) → Q (.int m) M
  | [.tup xs] => ∃ ns, intsOf xs = some ns ∧ 0 < ns.length ∧ ∀ m, m ∈ ns → (∀ y ∈ ns, y ≤ m) → Q (.int m) M
  | [.int i, .int j] => Q (.int (if j > i then j else i)) M
  | _ => False
theorem ca_minA (hc : X.calm = true) (hu : X.A.units + 1 < cLine) : CaD X (.builtin "min") gcMinA where
  ex := ⟨_, (cr_min hc).or ((cr_minT hc hu).or (call_min2 hc)), fun B E σ H r M O xs ds Q R ii q => by
    unfold gcMinA at q
    split at q
    · obtain ⟨v, rfl, a, vs, rfl, h1, l1⟩ := isXL1 ii
      obtain ⟨bs, e, h0, q⟩ := q
      rw [of_intsOf l1 e] at h1
      exact .inl ⟨a, bs, rfl, SqL.of h1, h0, fun m hm hy => fin_v R (.int _) (q m hm hy)⟩
    · obtain ⟨v, rfl, a, vs, rfl, h1, l1⟩ := isXL1 ii
      obtain ⟨bs, e, h0, q⟩ := q
      rw [of_intsOf l1 e] at h1
      exact .inr (.inl ⟨a, bs, rfl, h1, h0, fun m hm hy => fin_v R (.int _) (q m hm hy)⟩)
    · obtain ⟨v, u, rfl, j1, j2⟩ := isXL2 ii
      rw [is1_int j1, is1_int j2]
      exact .inr (.inr ⟨_, _, rfl, fin_v R (.int _) q⟩)
    · exact q.elim⟩
  mono := fun d M Q Q' h q => by
    unfold gcMinA at q ⊢
    split at q
    · obtain ⟨bs, e, h0, q⟩ := q
      exact ⟨bs, e, h0, fun m hm hy => h _ _ (q m hm hy)⟩
    · obtain ⟨bs, e, h0, q⟩ := q
      exact ⟨bs, e, h0, fun m hm hy => h _ _ (q m hm hy)⟩
    · exact h _ _ q
    · exact q.elim
theorem ca_maxA (hc : X.calm = true) (hu : X.A.units + 1 < cLine) : CaD X (.builtin "max") gcMaxA where
  ex := ⟨_, (cr_max hc).or ((cr_maxT hc hu).or (call_max2 hc)), fun B E σ H r M O xs ds Q R ii q => by
    unfold gcMaxA at q
    split at q
    · obtain ⟨v, rfl, a, vs, rfl, h1, l1⟩ := isXL1 ii
      obtain ⟨bs, e, h0, q⟩ := q
      rw [of_intsOf l1 e] at h1
      exact .inl ⟨a, bs, rfl, SqL.of h1, h0, fun m hm hy => fin_v R (.int _) (q m hm hy)⟩
    · obtain ⟨v, rfl, a, vs, rfl, h1, l1⟩ := isXL1 ii
      obtain ⟨bs, e, h0, q⟩ := q
      rw [of_intsOf l1 e] at h1
      exact .inr (.inl ⟨a, bs, rfl, h1, h0, fun m hm hy => fin_v R (.int _) (q m hm hy)⟩)
    · obtain ⟨v, u, rfl, j1, j2⟩ := isXL2 ii
      rw [is1_int j1, is1_int j2]
      exact .inr (.inr ⟨_, _, rfl, fin_v R (.int _) q⟩)
    · exact q.elim⟩
  mono := fun d M Q Q' h q => by
    unfold gcMaxA at q ⊢
    split at q
    · obtain ⟨bs, e, h0, q⟩ := q
      exact ⟨bs, e, h0, fun m hm hy => h _ _ (q m hm hy)⟩
    · obtain ⟨bs, e, h0, q⟩ := q
      exact ⟨bs, e, h0, fun m hm hy => h _ _ (q m hm hy)⟩
    · exact h _ _ q
    · exact q.elim
def repD (k : Int) (xs : List D) : List D := (List.replicate k.toNat xs).flatten
def goMulT : GO := fun d e M Q => match d, e with
  | .tup xs, .int k => (xs ≠ [] ∧ -1000000 ≤ k ∧ k ≤ 1000 ∧ xs.length ≤ 1000) ∧ Q (.tup (repD k xs)) M
  | _, _ => False
theorem IsL.rep {K : PySem.W.Frag} {A : Addr → Prop} {vs : List V} {ds : List D} (h : IsL K A H vs ds) : ∀ k : Nat, IsL K A H (List.replicate k vs).flatten (List.replicate k ds).flatten
  | 0 => .nil
  | k + 1 => by
    rw [List.replicate_succ, List.replicate_succ, List.flatten_cons, List.flatten_cons]
    exact h.append (IsL.rep h k)
end
end DL
set_option Elab.async false
set_option linter.all false
set_option maxRecDepth 100000
namespace DLR
open PySem PySem.Spec PySem.Calls PyProof.Rows HT
variable {prog : Program} {w : World} {A : Around} {E : Value → Shared → Prop} {s : Shared}
theorem adj_rev (n : Nat) : Builtin.Slice.sliceAdjust none none (-1) (n : Int) = ((n : Int) - 1, -1) := by
  unfold Builtin.Slice.sliceAdjust
  simp
theorem pl_rev (n : Nat) : Builtin.Slice.slicePlaces ((n : Int) - 1) (-1) (-1) = n := by
  unfold Builtin.Slice.slicePlaces
  rw [if_neg (by decide)]
  by_cases h : (n : Int) - 1 > -1
  · rw [if_pos h, show ((n : Int) - 1 - -1 - 1) = n - 1 by omega, show (- -1 : Int) = 1 by decide, Int.ediv_one]
    omega
  · rw [if_neg h]
    omega
theorem fm_congr {α β : Type} {f g : α → Option β} : ∀ l : List α, (∀ x ∈ l, f x = g x) → l.filterMap f = l.filterMap g
  | [], _ => rfl
  | x :: l, h => by
    rw [List.filterMap_cons, List.filterMap_cons, h x (List.mem_cons_self ..), fm_congr l fun y hy => h y (List.mem_cons_of_mem _ hy)]
theorem pick_rev (xs : Array Value) : ((List.range xs.size).filterMap fun (k : Nat) => xs[((xs.size : Int) - 1 + (k : Int) * (-1)).toNat]?).toArray = xs.toList.reverse.toArray := by
  have e : (List.range xs.size).filterMap (fun (k : Nat) => xs[((xs.size : Int) - 1 + (k : Int) * (-1)).toNat]?) = ((List.range xs.size).map fun k => xs.size - 1 - k).filterMap (xs[·]?) := by
    rw [List.filterMap_map]
    refine fm_congr _ fun k hk => ?_
    have := List.mem_range.mp hk
    show xs[((xs.size : Int) - 1 + (k : Int) * (-1)).toNat]? = xs[xs.size - 1 - k]?
    congr 1
    omega
  rw [e, PySem.W.krv_range, List.filterMap_reverse, PySem.W.krv_all]
theorem applied_rev {sl : Addr} {vs : Value} {n : Nat} {Q : Int × Int × Nat → Shared → Prop} (hs : s.heap.IsSliceOf sl .none .none vs) (ps : IsPart vs (some (-1))) (h : Q ((n : Int) - 1, -1, n) s) : wpAny (model prog w) A (Builtin.Slice.sliceApplied (.ref sl) (pure (n : Int))) Q E s := by
  obtain ⟨os, hos, hcs, hds⟩ := id hs
  unfold Builtin.Slice.sliceApplied Builtin.Slice.sliceFields
  refine wpAny_bind (wpAny_bind (wpAny_field hos hds (x := .none) rfl (wpAny_bind (wpAny_field hos hds (x := .none) rfl (wpAny_bind (wpAny_field hos hds (x := vs) rfl (wpAny_pure ?_)))))))
  refine wpAny_bind (slicePart_ ps ?_)
  show wpAny _ _ (if ((-1 : Int) == 0) = true then _ else _) _ _ s
  rw [if_neg (by decide)]
  refine wpAny_bind (slicePart_none (wpAny_bind (slicePart_none (wpAny_bind (wpAny_pure ?_)))))
  show wpAny _ _ (match Builtin.Slice.sliceAdjust none none (-1) (n : Int) with | (lo, hi) => pure (lo, (-1 : Int), Builtin.Slice.slicePlaces lo hi (-1))) _ _ s
  rw [adj_rev n]
  show wpAny _ _ (pure ((n : Int) - 1, (-1 : Int), Builtin.Slice.slicePlaces ((n : Int) - 1) (-1) (-1))) _ _ s
  rw [pl_rev]
  exact wpAny_pure h
theorem item_rev {t sl : Addr} {items : Array Value} {vs : Value} {Q : Value → Shared → Prop} (ht : IsTup s.heap t items) (hs : s.heap.IsSliceOf sl .none .none vs) (ps : IsPart vs (some (-1)))
    (h : Q (.ref s.heap.objs.size) { s with heap := s.heap.push { cls := .type "tuple", data := .seq items.toList.reverse.toArray } }) (hsz : items.size ≤ sizeLine) : wpAny (model prog w) A (getItem (.ref t) (.ref sl)) Q E s := by
  have hok : sizeOk (.seq items.toList.reverse.toArray) := by
    show items.toList.reverse.toArray.size ≤ sizeLine
    rw [List.size_toArray, List.length_reverse, Array.length_toList]
    exact hsz
  obtain ⟨os, hos, hcs, hds⟩ := id hs
  have hTs : s.TypeIs (.ref sl) "slice" := ⟨os, hos, hcs⟩
  unfold getItem
  try with_reducible refine wpAny_holding ?_
  first | refine wpAny_bind (wpAny_pure ?_) | skip
  refine wpAny_bind (wpAny_sequenceKey ht.typeIs (by decide) ?_)
  refine wpAny_bind (wpAny_callSpecial?_slot (name := Str.ofString "__getitem__") ht.typeIs PyProof.Rows.slot_tuple_getitem (wpAny_call_entry PyProof.Rows.slot_tuple_getitem ht.typeIs entry_tuple_getitem ?_ (args_tuple_getitem _ _)))
  show wpAny _ _ (Builtin.Tuple.tupleItemsOf (.ref t) >>= _) _ _ s
  refine wpAny_bind (tupleItemsOf_ ht ?_)
  refine wpAny_bind (wpAny_typeOf hTs ?_)
  rw [if_pos (by decide)]
  refine wpAny_bind (applied_rev hs ps ?_)
  have hno : ¬ ((((items.size : Int) - 1) == 0 && (-1 : Int) == 1 && items.size == items.size) = true) := by
    rw [show ((-1 : Int) == 1) = false by decide, Bool.and_false, Bool.false_and]
    exact Bool.false_ne_true
  show wpAny _ _ (if (((items.size : Int) - 1) == 0 && (-1 : Int) == 1 && items.size == items.size) = true then _ else _) _ _ s
  rw [if_neg hno, pick_rev]
  first
    | exact wpAny_bind (m := Builtin.Tuple.tupleExact _) (wpAny_newObj_type (wpAny_pure ⟨_, rfl, wpAny_pure h⟩) hok)
    | exact wpAny_bind (m := Builtin.Tuple.tupleExact _) (wpAny_newObj_type (wpAny_bind (wpAny_pure (wpAny_pure ⟨_, rfl, wpAny_pure h⟩))) hok)
    | exact wpAny_bind (wpAny_bind (m := Builtin.Tuple.tupleExact _) (wpAny_newObj_type (wpAny_pure (wpAny_pure ⟨_, rfl, wpAny_pure h⟩)) hok))
    | exact wpAny_bind (wpAny_bind (m := Builtin.Tuple.tupleExact _) (wpAny_newObj_type (wpAny_pure ⟨_, rfl, wpAny_pure h⟩) hok))
end DLR
namespace DL
open PySem PySem.Spec PyProof.Rows L2
def tRevA (K : PySem.W.Frag) (te : TE) : TE := fun σ H Q => te σ H fun x H1 => ∃ a xs, x = .ref a ∧ ((SqL K H1 a xs ∧ ∀ p, H1 p = none → Q (.ref p) (upd H1 p (.lst xs.reverse))) ∨ (SqT K H1 a xs ∧ Fz Q H1 xs.reverse))
theorem pe_revA {X : Cx} {e : Expr} {te : TE} {k : Nat} {p1 p2 p3 pos : Pos} (he : PE X e te) : PE X (.Subscript e (.Slice none none (some (.UnaryOp .USub (.Constant (.int 1) k p1) p2)) p3) pos) (tRevA X.K te) := by
  refine ⟨fun pins s σ H Q I h => Subscript_ (thn (he.run pins s σ H _ I h) fun v s1 ⟨x, H1, I1, r1, a, xs, ex, q⟩ => ?_)⟩
  subst ex
  cases r1
  have hst : PO X (some (.UnaryOp .USub (.Constant (.int 1) k p1) p2)) (tPart (tUn (rU fun i => .int (-i)) (tC (.int 1)))) := po_some (pe_un un_neg pe_int)
  refine wpAny_Slice (thn (po_none.run pins s1 σ H1 (fun o H2 => o = none ∧ H2 = H1) I1 ⟨rfl, rfl⟩) fun vl s2 ⟨l, H2, I2, pl, el, e2⟩ => ?_)
  subst el; subst e2
  refine thn (po_none.run pins s2 σ H2 (fun o H3 => o = none ∧ H3 = H2) I2 ⟨rfl, rfl⟩) fun vu s3 ⟨u, H3, I3, pu, eu, e3⟩ => ?_
  subst eu; subst e3
  refine thn (hst.run pins s3 σ H3 (fun o H4 => o = some (-1) ∧ H4 = H3) I3 ⟨1, rfl, -1, rfl, rfl, rfl⟩) fun vs s4 ⟨o, H4, I4, ps, eo, e4⟩ => ?_
  subst eo; subst e4
  have I5 : Inv X pins σ H4 { s4 with heap := s4.heap.push { cls := .type "slice", data := .fields #[vl, vu, vs] } } := I4.kept (t' := s4.toks) fun b ob q => Heap.get?_push_of_some _ q
  show wpAny (model X.prog X.w) X.A (subscriptTail e (.Slice none none (some (.UnaryOp .USub (.Constant (.int 1) k p1) p2)) p3) (.ref a) (.ref s4.heap.objs.size)) (EP X pins σ Q) X.xe { s4 with heap := s4.heap.push { cls := .type "slice", data := .fields #[vl, vu, vs] } }
  rcases q with ⟨hx, q⟩ | ⟨hx, q⟩
  · obtain ⟨its, r, ht, hz⟩ := I5.list hx
    have hlen := r.length
    refine tail_any (ops := [.ref a, .ref s4.heap.objs.size]) ht.isList.typeIs (PySem.slot_list_getitem.lookup) ?_ (by with_unfolding_all rfl)
    refine wpAny_getItem_list_slice ht.isList (Heap.IsSliceOf.new _ vl vu vs) pl pu ps (by decide) ?_ (by rw [List.size_toArray]; omega)
    rw [PySem.W.krv_pick]
    exact ⟨.ref _, _, I5.laid (t' := s4.toks) (o := .lst xs.reverse) (fun b ob q => Heap.get?_push_of_some _ q) (Nat.le_refl _) ⟨by rw [List.length_reverse]; exact hz, _, 0, r.reverse, Heap.get?_push_size _ rfl⟩, rfl, q _ (I5.hok.fresh (Nat.le_refl _))⟩
  · obtain ⟨its, r, ht, hz⟩ := I5.tuple hx
    have hlen := r.length
    refine tail_any (ops := [.ref a, .ref s4.heap.objs.size]) ht.typeIs (PyProof.Rows.slot_tuple_getitem.lookup) ?_ (by with_unfolding_all rfl)
    cases pl
    cases pu
    refine DLR.item_rev ht (Heap.IsSliceOf.new _ _ _ vs) ps ?_ (by rw [List.size_toArray]; omega)
    exact laid_fz (k := s4.toks) I5 r.reverse (by rw [List.length_reverse]; exact hz) q
section
variable {X : Cx} {w p : Bool} {a : Expr} {ga : GE} {pos : Pos}
/-- xs[::-1] -/
def goRevA : GU := fun d M Q => match d with
  | .lst xs => Q (.lst xs.reverse) M
  | .tup xs => Q (.tup xs.reverse) M
  | _ => False
theorem de_revA {k : Nat} {p1 p2 p3 : Pos} (ha : DE w p X a ga) : DE true p X (.Subscript a (.Slice none none (some (.UnaryOp .USub (.Constant (.int 1) k p1) p2)) p3) pos) (g1 goRevA ga) := by
  refine ⟨peI (pe_revA ha.run) fun σ H Q ⟨B, E, r, M, O, R, q⟩ => ?_, fun r M Q Q' h q => ha.mono r M _ _ (fun d M1 q1 => ?_) q⟩
  · refine ha.on R q fun d M1 v H1 O1 k1 R1 l1 i1 => ?_
    unfold goRevA at k1
    split at k1
    · obtain ⟨a, vs, rfl, h1, l1'⟩ := i1.one
      exact ⟨a, vs, rfl, .inl ⟨SqL.of h1, fin_lst R1 l1'.reverse (LE.go l1 k1)⟩⟩
    · obtain ⟨a, vs, rfl, h1, l1'⟩ := i1.one
      exact ⟨a, vs, rfl, .inr ⟨h1, fin_tup R1 l1'.reverse (LE.go l1 k1)⟩⟩
    · exact k1.elim
  · unfold goRevA at q1 ⊢
    split at q1
    · exact h _ _ q1
    · exact h _ _ q1
    · exact q1.elim
end
end DL
set_option Elab.async false
set_option linter.all false
set_option maxRecDepth 100000
namespace DL
open PySem PySem.Spec PySem.W PyProof.Rows L2
abbrev goSub : GO := goI (fun _ _ => True) fun i j => .int (i - j)
abbrev goMod : GO := goI (fun _ j => 0 < j) fun i j => .int (i % j)
abbrev goFdiv : GO := goI CDivW fun i j => .int (i / j)
abbrev goPow : GO := goI CPow fun i j => .int (i ^ j.toNat)
abbrev goMulI : GO := goI CMul fun i j => .int (i * j)
abbrev goLe : GO := goI (fun _ _ => True) fun i j => .bl (decide (i ≤ j))
abbrev goGt : GO := goI (fun _ _ => True) fun i j => .bl (decide (j < i))
abbrev goGe : GO := goI (fun _ _ => True) fun i j => .bl (decide (j ≤ i))
abbrev guNeg : GU := guI fun i => .int (-i)
abbrev gcAll : GC := gcBls fun bs => bs.all _root_.id
abbrev gcAny : GC := gcBls fun bs => bs.any _root_.id
abbrev gcAbs : GC := gcI1 fun i => .int (if i < 0 then -i else i)
theorem hu_ {A : Around} {k : Nat} (hr : Room k A) {n : Nat} (h : n ≤ 200 := by decide) : A.units + n < cLine := by have := hr.un; omega
section
variable {X : Cx} {p : Bool} {tg iter elt : Expr} {ifs : List Expr} {scope : Scope} {own : List (Str × Nat)} {ws : List Nat} {gi : GI} {gt : GG} {gtt : GT} {ge : GE} {pos : Pos}
theorem df_comp (hc : X.calm = true) (hN : X.N.Nodup) (hi : DI p X tg iter gi) (ok : BlkOk X.N X.env.scope scope own)
    (hg : ∀ (s : Shared) (H : Hp) (C : Addr) (cl : List (Str × Addr)) (fp : List Addr), DT' (X.blk s H scope (compEnvC scope cl C X.env) fp) tg ws gt)
    (ht : ∀ (s : Shared) (H : Hp) (C : Addr) (cl : List (Str × Addr)) (fp : List Addr), DTts p (X.blk s H scope (compEnvC scope cl C X.env) fp) ifs gtt)
    (he : ∀ (s : Shared) (H : Hp) (C : Addr) (cl : List (Str × Addr)) (fp : List Addr), DE true p (X.blk s H scope (compEnvC scope cl C X.env) fp) elt ge)
    (hws : ∀ j ∈ ws, j ∈ own.map (·.2) := by decide) (hs : ∀ x, foldedSetIterable iter X.env x = pure x := by intro _; rfl) : DF p X (.ListComp elt [⟨tg, iter, ifs, 0⟩] scope pos) (gLc gi gt gtt ge (own.map (·.2))) :=
  df_lc hc hN hi ok hg ht he (hg X.s_0 X.H_0 0 [] []).p.mono (ht X.s_0 X.H_0 0 [] []).mono (he X.s_0 X.H_0 0 [] []).mono (hg X.s_0 X.H_0 0 [] []).s hws hs
end
/-- drawn: the state at ds[0], memory as it was -/
def DrawF (pre : List D → Prop) (post : List D → D → Prop) : FS := fun ds M Q _ => (∃ a r, ds = .ref a :: r ∧ M a = some .st ∧ pre r ∧ ∀ d, post r d → Q d M)
theorem drawF_mono {pre : List D → Prop} {post : List D → D → Prop} : MonoF (DrawF pre post) := fun _ _ _ _ _ _ h _ ⟨a, r, e, m, p, q⟩ => ⟨a, r, e, m, p, fun d z => h _ _ (q d z)⟩
/-- raw: the state's dict stands open -/
def RawF (pre : List D → Prop) (post : List D → D → Prop) : FS := fun ds M Q _ => ∃ a r kds, ds = .ref a :: r ∧ M a = some (.om (.dic kds)) ∧ StOk kds ∧ pre r ∧ ∀ d kds', post r d → StOk kds' → Q d (mup M a (.om (.dic kds')))
theorem rawF_mono {pre : List D → Prop} {post : List D → D → Prop} : MonoF (RawF pre post) := fun _ _ _ _ _ _ h _ ⟨a, r, k, e, m, s, p, q⟩ => ⟨a, r, k, e, m, s, p, fun d kds z z2 => h _ _ (q d kds z z2)⟩
theorem ArgsOk.same {K : PySem.W.Frag} {A U U' : Addr → Prop} {H : Hp} (hU : U = U') {ks : List AK} {vs : List V} {ds : List D} (h : ArgsOk K A U H ks vs ds) : ArgsOk K A U' H ks vs ds := by rw [← hU]; exact h
theorem Def.draw {P : Program} {w : World} {K : PySem.W.Frag} {mg : Str → Option Value} {base : Heap} {n : Nat} {x : Str} {ps : List Str} {ks : List AK} {pre : List D → Prop} {post : List D → D → Prop}
    (h : Def P w K mg base n x ps ks (RawF pre post)) : Def P w K mg base n x ps ks (DrawF pre post) := by
  obtain ⟨f, fd, F, hm, hk, hb⟩ := h.ex
  refine ⟨⟨f, fd, F.imp fun vs H Q E q => ?_, hm, hk, hb⟩, drawF_mono⟩
  obtain ⟨B, M, O, ds, m, fl, ha, a, r, rfl, ms, hp, q⟩ := q
  obtain ⟨kds, ok, m2⟩ := st_open m ms
  have nm : M a ≠ none := by rw [ms]; simp
  refine ⟨B, mup M a (.om (.dic kds)), O, _, m2, fl, ?_, a, r, kds, rfl, mup_same, ok, hp, fun d kds' hd ok' v H' O' m' fl' st i => ?_⟩
  · rw [av_mup nm, mut_mup nm]
    exact ha
  · rw [mup_mup] at m' st i
    have m3 := st_close m' ok'
    have e1 : mup M a .st = M := mup_self ms
    rw [e1] at m3
    rw [mut_mup nm, mut_mup nm] at st
    rw [av_mup nm] at i
    exact q d hd v H' O' m3 fl' st i
/-- the state is made -/
def BegunF : FS := fun ds M Q _ => ∃ ns : List Int, ds = [.lst (ns.map .int)] ∧ ns.length ≤ 63 ∧ ∀ a, M a = none → Q (.ref a) (mup M a .st)
theorem begunF_mono : MonoF BegunF := fun _ _ _ _ _ _ h _ ⟨ns, e, hl, q⟩ => ⟨ns, e, hl, fun a n => h _ _ (q a n)⟩
def BegunR : FS := fun ds M Q _ => ∃ ns : List Int, ds = [.lst (ns.map .int)] ∧ ns.length ≤ 63 ∧ ∀ a kds, M a = none → StOk kds → Q (.ref a) (mup M a (.om (.dic kds)))
theorem begunR_mono : MonoF BegunR := fun _ _ _ _ _ _ h _ ⟨ns, e, hl, q⟩ => ⟨ns, e, hl, fun a kds n z => h _ _ (q a kds n z)⟩
theorem Def.begun {P : Program} {w : World} {K : PySem.W.Frag} {mg : Str → Option Value} {base : Heap} {n : Nat} {x : Str} {ps : List Str} {ks : List AK} (h : Def P w K mg base n x ps ks BegunR) : Def P w K mg base n x ps ks BegunF := by
  obtain ⟨f, fd, F, hm, hk, hb⟩ := h.ex
  refine ⟨⟨f, fd, F.imp fun vs H Q E q => ?_, hm, hk, hb⟩, begunF_mono⟩
  obtain ⟨B, M, O, ds, m, fl, ha, ns, rfl, hl, q⟩ := q
  refine ⟨B, M, O, _, m, fl, ha, ns, rfl, hl, fun a kds na ok v H' O' m' fl' st i => ?_⟩
  have m3 := st_close m' ok
  refine q a na v H' O' m3 fl' ?_ ?_
  · rw [mut_mupN] at st ⊢
    exact st
  · rw [av_mupN] at i ⊢
    exact i
end DL
set_option Elab.async false
set_option linter.all false
namespace DL
open PySem PySem.Spec PySem.W PyProof.Rows L2
section
variable {gt : GG} {gtt : GT} {ge : GE} {r : DL.Fr} {M : Mem} {Q : List D → Mem → Prop}
theorem lc_map (f : D → D) : ∀ {ds acc : List D}, (∀ d ∈ ds, ∀ Q' : D → Mem → Prop, Q' (f d) M → gt d r M fun r1 M1 => ge r1 M1 Q') → acc.length + ds.length ≤ sizeLine → Q (acc ++ ds.map f) M → lcD gt gYes ge r ds acc M Q
  | [], acc, _, _, q => by
    show Q acc M
    simpa using q
  | d :: ds, acc, h, hz, q => by
    have hz' : acc.length + (ds.length + 1) ≤ sizeLine := hz
    refine h d (List.mem_cons_self ..) _ ⟨by omega, lc_map f (fun x hx => h x (List.mem_cons_of_mem _ hx)) ?_ ?_⟩
    · rw [List.length_append, List.length_cons, List.length_nil]; omega
    · rw [List.append_assoc]; exact q
end
theorem atI_in {α : Type} {xs : List α} {i : Int} (h0 : 0 ≤ i) (h1 : i < xs.length) : ∃ z, atI xs i = some z ∧ z ∈ xs ∧ xs[i.toNat]? = some z := by
  have hl : i.toNat < xs.length := by omega
  refine ⟨xs[i.toNat], ?_, List.getElem_mem hl, List.getElem?_eq_getElem hl⟩
  unfold atI ixN
  rw [if_pos h0, if_pos h1]
  exact List.getElem?_eq_getElem hl
theorem ok_of {d : D} (h1 : d.pl = true) (h2 : PyData.canLay0 d.py = true) (h3 : PyData.depth d.py ≤ 64) : d.ok = true := by
  unfold D.ok
  rw [h1, Bool.true_and]
  show (PyData.canLay0 d.py && decide (PyData.depth d.py ≤ 64)) = true
  rw [h2, decide_eq_true h3]
  rfl
/-- depth and form of what holds such things -/
structure Ok1 (k : Nat) (d : D) : Prop where
  pl : d.pl = true
  lay : PyData.canLay0 d.py = true
  dep : PyData.depth d.py ≤ k
theorem Ok1.ok {k : Nat} {d : D} (h : Ok1 k d) (hk : k ≤ 64 := by decide) : d.ok = true := ok_of h.pl h.lay (Nat.le_trans h.dep hk)
theorem Ok1.mono {j k : Nat} {d : D} (h : Ok1 j d) (hk : j ≤ k) : Ok1 k d := ⟨h.pl, h.lay, Nat.le_trans h.dep hk⟩
theorem ints_of {P : Int → Prop} {xs : List D} (h : ∀ d ∈ xs, ∃ n, d = .int n ∧ P n) : ∃ ns : List Int, xs = ns.map .int ∧ ns.length = xs.length ∧ ∀ n ∈ ns, P n := by
  induction xs with
  | nil => exact ⟨[], rfl, rfl, by simp⟩
  | cons x r ih =>
    obtain ⟨n, rfl, hn⟩ := h x (List.mem_cons_self ..)
    obtain ⟨ns, rfl, hl, hp⟩ := ih fun d hd => h d (List.mem_cons_of_mem _ hd)
    exact ⟨n :: ns, rfl, congrArg (· + 1) hl, fun m hm => by
      rcases List.mem_cons.mp hm with rfl | hm
      · exact hn
      · exact hp m hm⟩
theorem size_of {n : Nat} (h : n ≤ 1000000) : n ≤ sizeLine := by rw [sizeLine_eq]; omega
theorem size_lt {n : Nat} (h : n ≤ 1000000) : n < sizeLine := by rw [sizeLine_eq]; omega
def mn : List Int → Int
  | [] => 0
  | x :: r => r.foldl min x
theorem mn_mem {ns : List Int} (h : ns ≠ []) : mn ns ∈ ns := by
  cases ns with
  | nil => exact absurd rfl h
  | cons x r => exact (foldmin r x).1
theorem mn_le {ns : List Int} {y : Int} (h : y ∈ ns) : mn ns ≤ y := by
  cases ns with
  | nil => cases h
  | cons x r => exact (foldmin r x).2 y h
theorem mn_eq {ns : List Int} {m : Int} (h1 : m ∈ ns) (h2 : ∀ y ∈ ns, m ≤ y) : m = mn ns := by
  have a := mn_le h1
  have b := h2 _ (mn_mem (List.ne_nil_of_mem h1))
  omega
end DL
namespace DL
open PySem PySem.Spec PySem.W PyProof.Rows L2
/-- not an own one -/
def Sl.fr : Sl → Prop
  | .o _ => False
  | _ => True
end DL
set_option Elab.async false
set_option linter.all false
namespace DL
open PySem PySem.Spec PySem.W PyProof.Rows L2
/-- depth, weight: it may be compared, shown -/
structure Sh (k w : Nat) (d : D) : Prop where
  pl : d.pl = true
  lay : PyData.canLay0 d.py = true
  dep : PyData.depth d.py ≤ k
  wt : PyData.weight d.py ≤ w
  sh : PyData.showable d.py = true
  lv : PyData.leavesShort 13 d.py = true
theorem Sh.ok {k w : Nat} {d : D} (h : Sh k w d) (hk : k ≤ 64 := by decide) : d.ok = true := ok_of h.pl h.lay (Nat.le_trans h.dep hk)
theorem Sh.mono {j k v w : Nat} {d : D} (h : Sh j v d) (hk : j ≤ k) (hw : v ≤ w) : Sh k w d := ⟨h.pl, h.lay, Nat.le_trans h.dep hk, Nat.le_trans h.wt hw, h.sh, h.lv⟩
theorem Sh.len {k w : Nat} {d : D} (h : Sh k w d) (hw : w ≤ 1000000) : d.py.shown.length ≤ sizeLine :=
  PyData.shown_fits (B := 13) (by decide) (by decide) h.lv (Nat.le_trans h.wt (by omega))
theorem log_lt {n k : Nat} (h : n < 2 ^ k) (hk : 0 < k) : n.log2 < k := by
  by_cases h0 : n = 0
  · rw [h0]; simpa using hk
  · exact (Nat.log2_lt h0).mpr h
theorem sh_int {n : Int} (h : n.natAbs < 10 ^ 12) : Sh 0 40 (.int n) where
  pl := rfl
  lay := rfl
  dep := Nat.le_refl _
  wt := by
    show (if n == 0 then 0 else n.natAbs.log2 + 1) ≤ 40
    split
    · omega
    · exact log_lt (Nat.lt_trans h (by decide)) (by decide)
  sh := by
    show decide (n.natAbs.log2 < 1920) = true
    exact decide_eq_true (Nat.lt_trans (log_lt (k := 40) (Nat.lt_trans h (by decide)) (by decide)) (by decide))
  lv := by
    show decide (_ ≤ 13) = true
    exact decide_eq_true (PyData.shown_int_le h)
theorem sh_all {k w : Nat} : ∀ {ds : List D}, (∀ d ∈ ds, Sh k w d) → D.plL ds = true ∧ PyData.canLayAll0 (D.pyL ds) = true ∧ PyData.depthAll (D.pyL ds) ≤ k ∧ PyData.weightAll (D.pyL ds) ≤ ds.length * (w + 1) ∧ PyData.showableAll (D.pyL ds) = true ∧ PyData.leavesShortAll 13 (D.pyL ds) = true
  | [], _ => ⟨rfl, rfl, Nat.zero_le _, Nat.zero_le _, rfl, rfl⟩
  | d :: r, h => by
    obtain ⟨h1, h2, h3, h4, h5, h6⟩ := sh_all (ds := r) fun x hx => h x (List.mem_cons_of_mem _ hx)
    obtain ⟨g1, g2, g3, g4, g5, g6⟩ := h d (List.mem_cons_self ..)
    refine ⟨?_, ?_, ?_, ?_, ?_, ?_⟩
    · simp only [D.plL, g1, h1]; rfl
    · simp only [D.pyL, PyData.canLayAll0, g2, h2]; rfl
    · simp only [D.pyL, PyData.depthAll]
      exact Nat.max_le.mpr ⟨g3, h3⟩
    · simp only [D.pyL, PyData.weightAll, List.length_cons, Nat.add_mul]
      omega
    · simp only [D.pyL, PyData.showableAll, g5, h5]; rfl
    · simp only [D.pyL, PyData.leavesShortAll, g6, h6]; rfl
theorem sh_tup {k w v : Nat} {ds : List D} (h : ∀ d ∈ ds, Sh k w d) (hv : ds.length * (w + 1) ≤ v) : Sh (k + 1) v (.tup ds) := by
  obtain ⟨h1, h2, h3, h4, h5, h6⟩ := sh_all h
  exact ⟨by simp only [D.pl]; exact h1, by simp only [D.py, PyData.canLay0]; exact h2, by simp only [D.py, PyData.depth]; omega, by simp only [D.py, PyData.weight]; omega,
    by simp only [D.py, PyData.showable]; exact h5, by simp only [D.py, PyData.leavesShort]; exact h6⟩
theorem sh_ints {ns : List Int} (h : ∀ n ∈ ns, n.natAbs < 10 ^ 12) {d : D} (hd : d ∈ ns.map D.int) : Sh 0 40 d := by
  obtain ⟨n, hn, rfl⟩ := List.mem_map.mp hd
  exact sh_int (h n hn)
/-- a loop by what holds between the turns; N: what comes behind a turn -/
theorem loop_inv {gt : GG} {gb : GS} {D : DEnds} (I : List DL.D → DL.Fr → Mem → Prop) (h0 : ∀ r M, I [] r M → D.nx r M)
    (h1 : ∀ d ds r M, I (d :: ds) r M → ∀ N : DL.Fr → Mem → Prop, (∀ r M, I ds r M → N r M) → gt d r M fun r' M' => gb { D with nx := N, ct := N, bk := D.nx } r' M') :
    ∀ ds r M, I ds r M → loopD gt gb ds D r M :=
  loop_ind I h0 fun d ds r M ih h => h1 d ds r M h _ ih
/-- < of numbers, of tuples of numbers -/
def goLtA : GO := fun d e M Q => match d, e with
  | .int i, .int j => Q (.bl (decide (i < j))) M
  | .tup xs, .tup ys => ∃ ns ms, intsOf xs = some ns ∧ intsOf ys = some ms ∧ Q (.bl (HT.lexLt ns ms)) M
  | _, _ => False
theorem od_ltA {X : Cx} (hu : X.A.units < cLine) : OpD X (compareOp .Lt) goLtA where
  ex := ⟨_, op_lt.or (op_ltT hu), fun B E σ H r M O x y d e Q R i1 i2 q => by
    unfold goLtA at q
    split at q
    · rw [is1_int i1, is1_int i2]
      exact .inl ⟨_, _, rfl, rfl, fin_v R (.bl _) q⟩
    · obtain ⟨a, vs, rfl, h1, l1⟩ := i1
      obtain ⟨b, us, rfl, h2, l2⟩ := i2
      obtain ⟨ns, ms, e1, e2, q⟩ := q
      rw [of_intsOf l1 e1] at h1
      rw [of_intsOf l2 e2] at h2
      exact .inr ⟨a, b, ns, ms, rfl, rfl, h1, h2, fin_v R (.bl _) q⟩
    · exact q.elim⟩
  mono := fun d e M Q Q' h q => by
    unfold goLtA at q ⊢
    split at q
    · exact h _ _ q
    · obtain ⟨ns, ms, e1, e2, q⟩ := q
      exact ⟨ns, ms, e1, e2, h _ _ q⟩
    · exact q
end DL
set_option Elab.async false
set_option linter.all false
namespace DL
open PySem PySem.Spec PySem.W PyProof.Rows L2
section
variable {M : Mem} {Q : D → Mem → Prop} {r : DL.Fr} {i j : Int} {x y : PySem.Str} {xs ys : List D} {b c : Bool} {kvs : List (Key × D)}
theorem goAdd_int : goAdd (.int i) (.int j) M Q = Q (.int (i + j)) M := rfl
theorem goAdd_str : goAdd (.str x) (.str y) M Q = (x.length + y.length ≤ sizeLine ∧ Q (.str (x ++ y)) M) := rfl
theorem goAdd_tup : goAdd (.tup xs) (.tup ys) M Q = (xs.length + ys.length ≤ sizeLine ∧ Q (.tup (xs ++ ys)) M) := rfl
theorem goAdd_lst : goAdd (.lst xs) (.lst ys) M Q = (xs.length + ys.length ≤ sizeLine ∧ Q (.lst (xs ++ ys)) M) := rfl
theorem goAddW_int : goAddW (.int i) (.int j) M Q = Q (.int (i + j)) M := rfl
theorem goAddW_lst : goAddW (.lst xs) (.lst ys) M Q = (xs.length + ys.length ≤ sizeLine ∧ Q (.lst (xs ++ ys)) M) := rfl
theorem goPlus_int : goPlus (.int i) (.int j) M Q = Q (.int (i + j)) M := rfl
theorem goI_int {C : Int → Int → Prop} {f : Int → Int → D} : goI C f (.int i) (.int j) M Q = (C i j ∧ Q (f i j) M) := rfl
theorem guI_int {f : Int → D} : guI f (.int i) M Q = Q (f i) M := rfl
theorem gcI1_int {f : Int → D} : gcI1 f [.int i] M Q = Q (f i) M := rfl
theorem goIx_lst : goIx (.lst xs) (.int i) M Q = match atI xs i with | some z => Q z M | none => False := rfl
theorem gcLen_lst : gcLen [.lst xs] M Q = Q (.int xs.length) M := rfl
theorem gcTupleS_lst : gcTupleS [.lst xs] M Q = Q (.tup xs) M := rfl
theorem gcList_lst : gcList [.lst xs] M Q = Q (.lst xs) M := rfl
theorem goRevA_lst : goRevA (.lst xs) M Q = Q (.lst xs.reverse) M := rfl
theorem goIx_tup : goIx (.tup xs) (.int i) M Q = match atI xs i with | some z => Q z M | none => False := rfl
theorem gcLen_tup : gcLen [.tup xs] M Q = Q (.int xs.length) M := rfl
theorem gcTupleS_tup : gcTupleS [.tup xs] M Q = Q (.tup xs) M := rfl
theorem gcList_tup : gcList [.tup xs] M Q = Q (.lst xs) M := rfl
theorem goRevA_tup : goRevA (.tup xs) M Q = Q (.tup xs.reverse) M := rfl
theorem gcTuple_lst : gcTuple [.lst xs] M Q = Q (.tup xs) M := rfl
theorem goIx_str : goIx (.str x) (.int i) M Q = (x.length ≤ sizeLine ∧ match atI x.cps.toList i with | some c => Q (.str ⟨#[c]⟩) M | none => False) := rfl
theorem gcLen_str : gcLen [.str x] M Q = (x.length ≤ sizeLine ∧ Q (.int x.length) M) := rfl
theorem gcInt_int : gcInt [.int i] M Q = Q (.int i) M := rfl
theorem gcInt_bl : gcInt [.bl b] M Q = Q (.int (if b then 1 else 0)) M := rfl
theorem goMulT_tup : goMulT (.tup xs) (.int i) M Q = ((xs ≠ [] ∧ -1000000 ≤ i ∧ i ≤ 1000 ∧ xs.length ≤ 1000) ∧ Q (.tup (repD i xs)) M) := rfl
theorem goIsB_bl {n : Bool} : goIsB n (.bl b) (.bl c) M Q = Q (.bl (xor n (decide (b = c)))) M := rfl
theorem goIsN_non {n : Bool} {d : D} : goIsN n d .non M Q = Q (.bl (xor n d.isN)) M := rfl
theorem isN_int {z} : D.isN (.int z) = false := rfl
theorem isN_bl {z} : D.isN (.bl z) = false := rfl
theorem isN_str {z} : D.isN (.str z) = false := rfl
theorem isN_tup {z} : D.isN (.tup z) = false := rfl
theorem isN_lst {z} : D.isN (.lst z) = false := rfl
theorem isN_dic {z} : D.isN (.dic z) = false := rfl
theorem isN_ref {z} : D.isN (.ref z) = false := rfl
theorem isN_ty {z} : D.isN (.ty z) = false := rfl
theorem isN_non : D.isN .non = true := rfl
def truK (d : D) (M : Mem) (Q : Bool → Mem → Prop) : Prop := match d with
  | .non => Q false M
  | .bl b => Q b M
  | .int i => Q (i != 0) M
  | .str x => x.length ≤ sizeLine ∧ Q ((x.length : Int) != 0) M
  | .lst xs => Q (!xs.isEmpty) M
  | .tup xs => Q (!xs.isEmpty) M
  | .dic xs => Q (!xs.isEmpty) M
  | _ => False
theorem gTru_k {ga : GE} {Q : Bool → Mem → Prop} : gTru ga r M Q = ga r M fun d M1 => truK d M1 Q := by
  unfold gTru
  congr 1
theorem truK_non {Q : Bool → Mem → Prop} : truK .non M Q = Q false M := rfl
theorem truK_bl {Q : Bool → Mem → Prop} : truK (.bl b) M Q = Q b M := rfl
theorem truK_int {Q : Bool → Mem → Prop} : truK (.int i) M Q = Q (i != 0) M := rfl
theorem truK_lst {Q : Bool → Mem → Prop} : truK (.lst xs) M Q = Q (!xs.isEmpty) M := rfl
theorem truK_tup {Q : Bool → Mem → Prop} : truK (.tup xs) M Q = Q (!xs.isEmpty) M := rfl
theorem truK_str {Q : Bool → Mem → Prop} : truK (.str x) M Q = (x.length ≤ sizeLine ∧ Q ((x.length : Int) != 0) M) := rfl
def lstK (d : D) (M : Mem) (Q : OM → Mem → Prop) : Prop := match d with
  | .lst xs => Q (.lst xs) M
  | .tup xs => Q (.lst xs) M
  | .dic kds => Q (.lst (kds.map fun kv => kD kv.1)) M
  | _ => False
theorem gFlist_k {ga : GE} {Q : OM → Mem → Prop} : gFlist ga r M Q = ga r M fun d M1 => lstK d M1 Q := by
  unfold gFlist
  congr 1
theorem lstK_lst {Q : OM → Mem → Prop} : lstK (.lst xs) M Q = Q (.lst xs) M := rfl
theorem lstK_dic {kds : List (Key × D)} {Q : OM → Mem → Prop} : lstK (.dic kds) M Q = Q (.lst (kds.map fun kv => kD kv.1)) M := rfl
theorem gcLen_dic {kds : List (Key × D)} : gcLen [.dic kds] M Q = Q (.int kds.length) M := rfl
theorem goIx_dic {kds : List (Key × D)} {e : D} : goIx (.dic kds) e M Q = dgetK kds e M Q := rfl
theorem truK_dic {kds : List (Key × D)} {Q : Bool → Mem → Prop} : truK (.dic kds) M Q = Q (!kds.isEmpty) M := rfl
theorem lstK_tup {Q : OM → Mem → Prop} : lstK (.tup xs) M Q = Q (.lst xs) M := rfl
def slK (w : Bool) (d : D) (lo hi : Option Int) (M : Mem) (Q : D → Mem → Prop) : Prop := match d with
  | .lst xs => Q (.lst (cutD xs lo hi)) M
  | .tup xs => w = true ∧ Q (.tup (cutD xs lo hi)) M
  | .str x => x.length ≤ sizeLine ∧ Q (.str (cutS x lo hi)) M
  | _ => False
theorem gsSl_k {w : Bool} {ga : GE} {gl gh : GO'} : gsSl w ga gl gh r M Q = ga r M fun d M1 => gl r M1 fun lo M2 => gh r M2 fun hi M3 => slK w d lo hi M3 Q := by
  unfold gsSl
  congr 1
theorem slK_lst {w : Bool} {lo hi : Option Int} : slK w (.lst xs) lo hi M Q = Q (.lst (cutD xs lo hi)) M := rfl
theorem slK_tup {lo hi : Option Int} : slK true (.tup xs) lo hi M Q = Q (.tup (cutD xs lo hi)) M := propext ⟨fun h => h.2, fun h => ⟨rfl, h⟩⟩
theorem slK_str {w : Bool} {lo hi : Option Int} : slK w (.str x) lo hi M Q = (x.length ≤ sizeLine ∧ Q (.str (cutS x lo hi)) M) := rfl
def itsK (f : List D → List D) (d : D) (M : Mem) (Q : List D → Mem → Prop) : Prop := match d with
  | .lst ds => Q (f ds) M
  | .tup ds => Q (f ds) M
  | _ => False
theorem itsD_k {f : List D → List D} {ga : GE} {Q : List D → Mem → Prop} : itsD f ga r M Q = ga r M fun d M1 => itsK f d M1 Q := by
  unfold itsD
  congr 1
theorem itsK_lst {f : List D → List D} {Q : List D → Mem → Prop} : itsK f (.lst xs) M Q = Q (f xs) M := rfl
theorem itsK_tup {f : List D → List D} {Q : List D → Mem → Prop} : itsK f (.tup xs) M Q = Q (f xs) M := rfl
def zipK (ds : List D) (M : Mem) (Q : List D → Mem → Prop) : Prop := match ds with
  | [.lst xs, .lst ys] => Q (zipD xs ys) M
  | [.tup xs, .tup ys] => Q (zipD xs ys) M
  | _ => False
theorem giZip_k {gs : GA} {Q : List D → Mem → Prop} : giZip gs r M Q = gs r M fun ds M1 => zipK ds M1 Q := by
  unfold giZip
  congr 1
theorem zipK_lst {Q : List D → Mem → Prop} : zipK [.lst xs, .lst ys] M Q = Q (zipD xs ys) M := rfl
theorem zipK_tup {Q : List D → Mem → Prop} : zipK [.tup xs, .tup ys] M Q = Q (zipD xs ys) M := rfl
def ran1K (ds : List D) (M : Mem) (Q : List D → Mem → Prop) : Prop := match ds with
  | [.int j] => (-(2 ^ 62) ≤ j ∧ j < 2 ^ 62) ∧ Q (rngD 0 j.toNat) M
  | _ => False
theorem giR1_k {gs : GA} {Q : List D → Mem → Prop} : giR1 gs r M Q = gs r M fun ds M1 => ran1K ds M1 Q := by
  unfold giR1
  congr 1
theorem ran1K_nat {n : Nat} {Q : List D → Mem → Prop} : ran1K [.int (n : Int)] M Q = ((n : Int) < 2 ^ 62 ∧ Q (rngD 0 n) M) := propext ⟨fun h => ⟨h.1.2, by have := h.2; rwa [Int.toNat_natCast] at this⟩, fun h => ⟨⟨by omega, h.1⟩, by rw [Int.toNat_natCast]; exact h.2⟩⟩
theorem ran1K_int {Q : List D → Mem → Prop} : ran1K [.int i] M Q = ((-(2 ^ 62) ≤ i ∧ i < 2 ^ 62) ∧ Q (rngD 0 i.toNat) M) := rfl
def ran2K (ds : List D) (M : Mem) (Q : List D → Mem → Prop) : Prop := match ds with
  | [.int i, .int j] => (-(2 ^ 62) ≤ i ∧ i < 2 ^ 62 ∧ -(2 ^ 62) ≤ j ∧ j < 2 ^ 62) ∧ Q (rngD i (j - i).toNat) M
  | _ => False
theorem giR2_k {gs : GA} {Q : List D → Mem → Prop} : giR2 gs r M Q = gs r M fun ds M1 => ran2K ds M1 Q := by
  unfold giR2
  congr 1
theorem ran2K_int {Q : List D → Mem → Prop} : ran2K [.int i, .int j] M Q = ((-(2 ^ 62) ≤ i ∧ i < 2 ^ 62 ∧ -(2 ^ 62) ≤ j ∧ j < 2 ^ 62) ∧ Q (rngD i (j - i).toNat) M) := rfl
theorem goLtA_int : goLtA (.int i) (.int j) M Q = Q (.bl (decide (i < j))) M := rfl
theorem goLtA_tup {ns ms : List Int} : goLtA (.tup (ns.map .int)) (.tup (ms.map .int)) M Q = Q (.bl (HT.lexLt ns ms)) M := propext ⟨fun ⟨a, b, h1, h2, q⟩ => by
    rw [intsOf_map] at h1 h2
    cases h1; cases h2
    exact q, fun q => ⟨ns, ms, intsOf_map _, intsOf_map _, q⟩⟩
theorem ok_non : D.ok .non = true := rfl
theorem eqv_bl (a b : Bool) : D.eqv (.bl a) (.bl b) = decide (a = b) := by cases a <;> cases b <;> simp [D.eqv, D.py, PyData.eqv]
/-- numbers, truths, texts; else what is ok -/
def goEqA : GO := fun d e M Q => match d, e with
  | .int i, .int j => Q (.bl (decide (i = j))) M
  | .bl i, .bl j => Q (.bl (decide (i = j))) M
  | .str i, .str j => Q (.bl (decide (i = j))) M
  | d, e => (d.ok = true ∧ e.ok = true) ∧ Q (.bl (d.eqv e)) M
def goNeA : GO := fun d e M Q => match d, e with
  | .int i, .int j => Q (.bl (!decide (i = j))) M
  | .bl i, .bl j => Q (.bl (!decide (i = j))) M
  | .str i, .str j => Q (.bl (!decide (i = j))) M
  | d, e => (d.ok = true ∧ e.ok = true) ∧ Q (.bl (!d.eqv e)) M
theorem decV_int {i j : Int} : decide (V.int i = V.int j) = decide (i = j) := by
  by_cases h : i = j
  · subst h; simp
  · rw [decide_eq_false h, decide_eq_false fun z => h (by cases z; rfl)]
theorem decV_bl {i j : Bool} : decide (V.bl i = V.bl j) = decide (i = j) := by
  by_cases h : i = j
  · subst h; simp
  · rw [decide_eq_false h, decide_eq_false fun z => h (by cases z; rfl)]
theorem decV_str {i j : PySem.Str} : decide (V.str i = V.str j) = decide (i = j) := by
  by_cases h : i = j
  · subst h; simp
  · rw [decide_eq_false h, decide_eq_false fun z => h (by cases z; rfl)]
theorem od_eqA {X : Cx} (hu : X.A.units + 64 < cLine) : OpD X (compareOp .Eq) goEqA where
  ex := ⟨_, op_eq.or (op_eqD hu), fun B E σ H r M O x y d e Q R i1 i2 q => by
    unfold goEqA at q
    split at q
    · rw [is1_int i1, is1_int i2]
      exact .inl ⟨rfl, by rw [decV_int]; exact fin_v R (.bl _) q⟩
    · rw [is1_bl i1, is1_bl i2]
      exact .inl ⟨rfl, by rw [decV_bl]; exact fin_v R (.bl _) q⟩
    · rw [is1_str i1, is1_str i2]
      exact .inl ⟨rfl, by rw [decV_str]; exact fin_v R (.bl _) q⟩
    · exact .inr ⟨d.py, e.py, i1.dp (ok_and q.1.1).1, i2.dp (ok_and q.1.2).1, (ok_and q.1.1).2, (ok_and q.1.2).2, fin_v R (.bl _) q.2⟩⟩
  mono := fun d e M Q Q' h q => by
    unfold goEqA at q ⊢
    split at q
    · exact h _ _ q
    · exact h _ _ q
    · exact h _ _ q
    · exact ⟨q.1, h _ _ q.2⟩
theorem od_neA {X : Cx} (hu : X.A.units + 64 < cLine) : OpD X (compareOp .NotEq) goNeA where
  ex := ⟨_, op_ne.or (op_neD hu), fun B E σ H r M O x y d e Q R i1 i2 q => by
    unfold goNeA at q
    split at q
    · rw [is1_int i1, is1_int i2]
      exact .inl ⟨rfl, by rw [decV_int]; exact fin_v R (.bl _) q⟩
    · rw [is1_bl i1, is1_bl i2]
      exact .inl ⟨rfl, by rw [decV_bl]; exact fin_v R (.bl _) q⟩
    · rw [is1_str i1, is1_str i2]
      exact .inl ⟨rfl, by rw [decV_str]; exact fin_v R (.bl _) q⟩
    · exact .inr ⟨d.py, e.py, i1.dp (ok_and q.1.1).1, i2.dp (ok_and q.1.2).1, (ok_and q.1.1).2, (ok_and q.1.2).2, fin_v R (.bl _) q.2⟩⟩
  mono := fun d e M Q Q' h q => by
    unfold goNeA at q ⊢
    split at q
    · exact h _ _ q
    · exact h _ _ q
    · exact h _ _ q
    · exact ⟨q.1, h _ _ q.2⟩
theorem goEq_int : goEqA (.int i) (.int j) M Q = Q (.bl (decide (i = j))) M := rfl
theorem goNe_int : goNeA (.int i) (.int j) M Q = Q (.bl (!decide (i = j))) M := rfl
theorem goEq_bl : goEqA (.bl b) (.bl c) M Q = Q (.bl (decide (b = c))) M := rfl
theorem goNe_bl : goNeA (.bl b) (.bl c) M Q = Q (.bl (!decide (b = c))) M := rfl
theorem goEq_str : goEqA (.str x) (.str y) M Q = Q (.bl (decide (x = y))) M := rfl
theorem goNe_str : goNeA (.str x) (.str y) M Q = Q (.bl (!decide (x = y))) M := rfl
theorem goEq_tup {e : D} : goEqA (.tup xs) e M Q = ((D.ok (.tup xs) = true ∧ e.ok = true) ∧ Q (.bl (D.eqv (.tup xs) e)) M) := rfl
theorem goNe_tup {e : D} : goNeA (.tup xs) e M Q = ((D.ok (.tup xs) = true ∧ e.ok = true) ∧ Q (.bl (!D.eqv (.tup xs) e)) M) := rfl
theorem goEq_lst {e : D} : goEqA (.lst xs) e M Q = ((D.ok (.lst xs) = true ∧ e.ok = true) ∧ Q (.bl (D.eqv (.lst xs) e)) M) := rfl
theorem goNe_lst {e : D} : goNeA (.lst xs) e M Q = ((D.ok (.lst xs) = true ∧ e.ok = true) ∧ Q (.bl (!D.eqv (.lst xs) e)) M) := rfl
theorem goEq_non {e : D} : goEqA .non e M Q = ((D.ok .non = true ∧ e.ok = true) ∧ Q (.bl (D.eqv .non e)) M) := rfl
theorem goNe_non {e : D} : goNeA .non e M Q = ((D.ok .non = true ∧ e.ok = true) ∧ Q (.bl (!D.eqv .non e)) M) := rfl
def mx : List Int → Int
  | [] => 0
  | x :: r => r.foldl max x
theorem mx_mem {ns : List Int} (h : ns ≠ []) : mx ns ∈ ns := by
  cases ns with
  | nil => exact absurd rfl h
  | cons x r => exact (foldmax r x).1
theorem mx_ge {ns : List Int} {y : Int} (h : y ∈ ns) : y ≤ mx ns := by
  cases ns with
  | nil => cases h
  | cons x r => exact (foldmax r x).2 y h
theorem mx_eq {ns : List Int} {m : Int} (h1 : m ∈ ns) (h2 : ∀ y ∈ ns, y ≤ m) : m = mx ns := by
  have a := mx_ge h1
  have b := h2 _ (mx_mem (List.ne_nil_of_mem h1))
  omega
theorem gcMin_of {ns : List Int} (e : intsOf xs = some ns) : gcMinA [.lst xs] M Q = (ns ≠ [] ∧ Q (.int (mn ns)) M) := propext ⟨fun ⟨ms, h, h0, q⟩ => by
    rw [e] at h
    cases h
    have hn : ns ≠ [] := List.length_pos_iff.mp h0
    exact ⟨hn, q _ (mn_mem hn) fun y hy => mn_le hy⟩, fun ⟨hn, q⟩ => ⟨ns, e, List.length_pos_iff.mpr hn, fun m h1 h2 => by rw [mn_eq h1 h2]; exact q⟩⟩
theorem gcMinT_of {ns : List Int} (e : intsOf xs = some ns) : gcMinA [.tup xs] M Q = (ns ≠ [] ∧ Q (.int (mn ns)) M) := propext ⟨fun ⟨ms, h, h0, q⟩ => by
    rw [e] at h
    cases h
    have hn : ns ≠ [] := List.length_pos_iff.mp h0
    exact ⟨hn, q _ (mn_mem hn) fun y hy => mn_le hy⟩, fun ⟨hn, q⟩ => ⟨ns, e, List.length_pos_iff.mpr hn, fun m h1 h2 => by rw [mn_eq h1 h2]; exact q⟩⟩
theorem gcMax_of {ns : List Int} (e : intsOf xs = some ns) : gcMaxA [.lst xs] M Q = (ns ≠ [] ∧ Q (.int (mx ns)) M) := propext ⟨fun ⟨ms, h, h0, q⟩ => by
    rw [e] at h
    cases h
    have hn : ns ≠ [] := List.length_pos_iff.mp h0
    exact ⟨hn, q _ (mx_mem hn) fun y hy => mx_ge hy⟩, fun ⟨hn, q⟩ => ⟨ns, e, List.length_pos_iff.mpr hn, fun m h1 h2 => by rw [mx_eq h1 h2]; exact q⟩⟩
theorem gcMaxT_of {ns : List Int} (e : intsOf xs = some ns) : gcMaxA [.tup xs] M Q = (ns ≠ [] ∧ Q (.int (mx ns)) M) := propext ⟨fun ⟨ms, h, h0, q⟩ => by
    rw [e] at h
    cases h
    have hn : ns ≠ [] := List.length_pos_iff.mp h0
    exact ⟨hn, q _ (mx_mem hn) fun y hy => mx_ge hy⟩, fun ⟨hn, q⟩ => ⟨ns, e, List.length_pos_iff.mpr hn, fun m h1 h2 => by rw [mx_eq h1 h2]; exact q⟩⟩
theorem gcMin_ints {ns : List Int} : gcMinA [.lst (ns.map .int)] M Q = (ns ≠ [] ∧ Q (.int (mn ns)) M) := gcMin_of (intsOf_map ns)
theorem gcMinT_ints {ns : List Int} : gcMinA [.tup (ns.map .int)] M Q = (ns ≠ [] ∧ Q (.int (mn ns)) M) := gcMinT_of (intsOf_map ns)
theorem gcMax_ints {ns : List Int} : gcMaxA [.lst (ns.map .int)] M Q = (ns ≠ [] ∧ Q (.int (mx ns)) M) := gcMax_of (intsOf_map ns)
theorem gcMaxT_ints {ns : List Int} : gcMaxA [.tup (ns.map .int)] M Q = (ns ≠ [] ∧ Q (.int (mx ns)) M) := gcMaxT_of (intsOf_map ns)
theorem intsOf_mapf {α : Type} (f : α → Int) : ∀ zs : List α, intsOf (zs.map fun z => D.int (f z)) = some (zs.map f)
  | [] => rfl
  | z :: r => by
    have h := intsOf_mapf f r
    show (intsOf (r.map fun z => D.int (f z))).map _ = _
    rw [h]
    rfl
theorem blsOf_mapf {α : Type} (f : α → Bool) : ∀ zs : List α, blsOf (zs.map fun z => D.bl (f z)) = some (zs.map f)
  | [] => rfl
  | z :: r => by
    have h := blsOf_mapf f r
    show (blsOf (r.map fun z => D.bl (f z))).map _ = _
    rw [h]
    rfl
theorem gcMin_f {α : Type} {f : α → Int} {zs : List α} : gcMinA [.lst (zs.map fun z => D.int (f z))] M Q = (zs.map f ≠ [] ∧ Q (.int (mn (zs.map f))) M) := gcMin_of (intsOf_mapf f zs)
theorem gcMax_f {α : Type} {f : α → Int} {zs : List α} : gcMaxA [.lst (zs.map fun z => D.int (f z))] M Q = (zs.map f ≠ [] ∧ Q (.int (mx (zs.map f))) M) := gcMax_of (intsOf_mapf f zs)
theorem gcMin_2 : gcMinA [.int i, .int j] M Q = Q (.int (min i j)) M := by
  have e : (if j < i then j else i) = min i j := by split <;> omega
  rw [← e]
  rfl
theorem gcMax_2 : gcMaxA [.int i, .int j] M Q = Q (.int (max i j)) M := by
  have e : (if j > i then j else i) = max i j := by split <;> omega
  rw [← e]
  rfl
theorem gcSum_ints {ns : List Int} : gcSum [.lst (ns.map .int)] M Q = Q (.int ns.sum) M := propext ⟨fun ⟨ms, h, q⟩ => by
    rw [intsOf_map] at h
    cases h
    exact q, fun q => ⟨ns, intsOf_map ns, q⟩⟩
theorem gcSum_f {α : Type} {f : α → Int} {zs : List α} : gcSum [.lst (zs.map fun z => D.int (f z))] M Q = Q (.int (zs.map f).sum) M := propext ⟨fun ⟨ms, h, q⟩ => by
    rw [intsOf_mapf] at h
    cases h
    exact q, fun q => ⟨_, intsOf_mapf f zs, q⟩⟩
theorem gcBls_f {α : Type} {g : List Bool → Bool} {f : α → Bool} {zs : List α} : gcBls g [.lst (zs.map fun z => D.bl (f z))] M Q = Q (.bl (g (zs.map f))) M := propext ⟨fun ⟨ms, h, q⟩ => by
    rw [blsOf_mapf] at h
    cases h
    exact q, fun q => ⟨_, blsOf_mapf f zs, q⟩⟩
theorem all_mapid {α : Type} {f : α → Bool} {zs : List α} : (zs.map f).all _root_.id = zs.all f := by simp
theorem any_mapid {α : Type} {f : α → Bool} {zs : List α} : (zs.map f).any _root_.id = zs.any f := by simp
theorem at_0 {α : Type} {a : α} {l : List α} : atI (a :: l) 0 = some a := by
  unfold atI ixN
  rw [if_pos (by decide), if_pos (by simp <;> omega)]
  rfl
theorem at_1 {α : Type} {a b : α} {l : List α} : atI (a :: b :: l) 1 = some b := by
  unfold atI ixN
  rw [if_pos (by decide), if_pos (by simp <;> omega)]
  rfl
theorem at_2 {α : Type} {a b c : α} {l : List α} : atI (a :: b :: c :: l) 2 = some c := by
  unfold atI ixN
  rw [if_pos (by decide), if_pos (by simp <;> omega)]
  rfl
theorem at_3 {α : Type} {a b c d : α} {l : List α} : atI (a :: b :: c :: d :: l) 3 = some d := by
  unfold atI ixN
  rw [if_pos (by decide), if_pos (by simp <;> omega)]
  rfl
theorem at_last {α : Type} {a : α} {l : List α} : atI (l ++ [a]) (-1) = some a := by
  unfold atI ixN
  rw [if_neg (by decide), if_pos (by simp <;> omega)]
  show (l ++ [a])[(-1 + ((l ++ [a]).length : Int)).toNat]? = _
  rw [List.length_append, List.length_singleton, show (-1 + ((l.length + 1 : Nat) : Int)).toNat = l.length by omega]
  simp
def nof : Sl → Bool
  | .o _ => false
  | _ => true
theorem noOwn_nil : noOwn r [] = true := rfl
theorem noOwn_1 {k : Nat} : noOwn r [k] = (match r.sl[k]? with | some s => nof s | none => true) := by
  show ((match r.sl[k]? with
    | some (.o _) => false
    | _ => true) && _) = _
  cases h : r.sl[k]? with
  | none => rfl
  | some s => cases s <;> rfl
theorem noOwn_2 {k j : Nat} : noOwn r [k, j] = ((match r.sl[k]? with | some s => nof s | none => true) && (match r.sl[j]? with | some s => nof s | none => true)) := by
  have h : noOwn r [k, j] = (noOwn r [k] && noOwn r [j]) := by
    show (_ && (_ && true)) = ((_ && true) && (_ && true))
    simp
  rw [h, noOwn_1, noOwn_1]
theorem nof_n : nof .n = true := rfl
theorem nof_v {d : D} : nof (.v d) = true := rfl
theorem nof_b {k : Bool} {ds : List D} : nof (.b k ds) = true := rfl
theorem nof_s {ns : List Int} : nof (.s ns) = true := rfl
theorem zipD_map {α β : Type} {f : α → D} {g : β → D} : ∀ {as : List α} {bs : List β}, zipD (as.map f) (bs.map g) = (as.zip bs).map fun p => .tup [f p.1, g p.2]
  | [], _ => rfl
  | _ :: _, [] => rfl
  | a :: as, b :: bs => congrArg (_ :: ·) (zipD_map (as := as) (bs := bs))
theorem enumD_map {α : Type} {f : α → D} : ∀ {as : List α} {k : Nat}, enumD k (as.map f) = (as.zipIdx k).map fun p => .tup [.int (p.2 : Nat), f p.1]
  | [], _ => rfl
  | a :: as, k => congrArg (_ :: ·) (enumD_map (as := as) (k := k + 1))
end
section
variable {gt : GG} {gtt : GT} {ge : GE} {r : DL.Fr} {M : Mem} {Q : List D → Mem → Prop} {α : Type} {enc : α → D} {f : α → D}
theorem lc_mp {xs : List α} {acc : List D} (h : ∀ x ∈ xs, ∀ Q' : D → Mem → Prop, Q' (f x) M → gt (enc x) r M fun r1 M1 => ge r1 M1 Q') (hz : acc.length + xs.length ≤ sizeLine) (q : Q (acc ++ xs.map f) M) : lcD gt gYes ge r (xs.map enc) acc M Q := by
  induction xs generalizing acc with
  | nil =>
    show Q acc M
    simpa using q
  | cons x xs ih =>
    have hz' : acc.length + (xs.length + 1) ≤ sizeLine := hz
    refine h x (List.mem_cons_self ..) _ ⟨by omega, ih (fun y hy => h y (List.mem_cons_of_mem _ hy)) ?_ ?_⟩
    · rw [List.length_append, List.length_cons, List.length_nil]; omega
    · rw [List.append_assoc]; exact q
/-- drawn items: what is true of each -/
theorem lc_dr {P : α → D → Prop} {xs : List α} {acc : List D} (h : ∀ x ∈ xs, ∀ Q' : D → Mem → Prop, (∀ z, P x z → Q' z M) → gt (enc x) r M fun r1 M1 => ge r1 M1 Q') (hz : acc.length + xs.length ≤ sizeLine)
    (q : ∀ zs : List D, zs.length = xs.length → (∀ (i : Nat) (x : α) (z : D), xs[i]? = some x → zs[i]? = some z → P x z) → Q (acc ++ zs) M) : lcD gt gYes ge r (xs.map enc) acc M Q := by
  induction xs generalizing acc with
  | nil =>
    show Q acc M
    simpa using q [] rfl (by simp)
  | cons x xs ih =>
    have hz' : acc.length + (xs.length + 1) ≤ sizeLine := hz
    refine h x (List.mem_cons_self ..) _ fun z hp => ⟨by omega, ih (fun y hy => h y (List.mem_cons_of_mem _ hy)) ?_ fun zs hl hq => ?_⟩
    · rw [List.length_append, List.length_cons, List.length_nil]; omega
    · rw [List.append_assoc]
      refine q (z :: zs) (congrArg (· + 1) hl) fun i y w e1 e2 => ?_
      cases i with
      | zero => cases e1; cases e2; exact hp
      | succ i => exact hq i y w e1 e2
theorem loop_mp {gb : GS} {D' : DEnds} (I : List α → DL.Fr → Mem → Prop) (h0 : ∀ r M, I [] r M → D'.nx r M)
    (h1 : ∀ x xs r M, I (x :: xs) r M → ∀ N : DL.Fr → Mem → Prop, (∀ r M, I xs r M → N r M) → gt (enc x) r M fun r' M' => gb { D' with nx := N, ct := N, bk := D'.nx } r' M') :
    ∀ xs r M, I xs r M → loopD gt gb (xs.map enc) D' r M
  | [], r, M, h => h0 r M h
  | x :: xs, r, M, h => h1 x xs r M h _ (loop_mp I h0 h1 xs)
end
section
variable {M : Mem} {Q : D → Mem → Prop}
theorem isi_non_int  : gcIsi [.non, .ty "int"] M Q = Q (.bl false) M := propext ⟨fun ⟨_, t, h, q⟩ => by cases h; exact q, fun q => ⟨by decide, "NoneType", rfl, q⟩⟩
theorem isi_non_bool  : gcIsi [.non, .ty "bool"] M Q = Q (.bl false) M := propext ⟨fun ⟨_, t, h, q⟩ => by cases h; exact q, fun q => ⟨by decide, "NoneType", rfl, q⟩⟩
theorem isi_non_str  : gcIsi [.non, .ty "str"] M Q = Q (.bl false) M := propext ⟨fun ⟨_, t, h, q⟩ => by cases h; exact q, fun q => ⟨by decide, "NoneType", rfl, q⟩⟩
theorem isi_non_tuple  : gcIsi [.non, .ty "tuple"] M Q = Q (.bl false) M := propext ⟨fun ⟨_, t, h, q⟩ => by cases h; exact q, fun q => ⟨by decide, "NoneType", rfl, q⟩⟩
theorem isi_non_list  : gcIsi [.non, .ty "list"] M Q = Q (.bl false) M := propext ⟨fun ⟨_, t, h, q⟩ => by cases h; exact q, fun q => ⟨by decide, "NoneType", rfl, q⟩⟩
theorem isi_non_dict  : gcIsi [.non, .ty "dict"] M Q = Q (.bl false) M := propext ⟨fun ⟨_, t, h, q⟩ => by cases h; exact q, fun q => ⟨by decide, "NoneType", rfl, q⟩⟩
theorem isi_bl_int (z : Bool) : gcIsi [.bl z, .ty "int"] M Q = Q (.bl true) M := propext ⟨fun ⟨_, t, h, q⟩ => by cases h; exact q, fun q => ⟨by decide, "bool", rfl, q⟩⟩
theorem isi_bl_bool (z : Bool) : gcIsi [.bl z, .ty "bool"] M Q = Q (.bl true) M := propext ⟨fun ⟨_, t, h, q⟩ => by cases h; exact q, fun q => ⟨by decide, "bool", rfl, q⟩⟩
theorem isi_bl_str (z : Bool) : gcIsi [.bl z, .ty "str"] M Q = Q (.bl false) M := propext ⟨fun ⟨_, t, h, q⟩ => by cases h; exact q, fun q => ⟨by decide, "bool", rfl, q⟩⟩
theorem isi_bl_tuple (z : Bool) : gcIsi [.bl z, .ty "tuple"] M Q = Q (.bl false) M := propext ⟨fun ⟨_, t, h, q⟩ => by cases h; exact q, fun q => ⟨by decide, "bool", rfl, q⟩⟩
theorem isi_bl_list (z : Bool) : gcIsi [.bl z, .ty "list"] M Q = Q (.bl false) M := propext ⟨fun ⟨_, t, h, q⟩ => by cases h; exact q, fun q => ⟨by decide, "bool", rfl, q⟩⟩
theorem isi_bl_dict (z : Bool) : gcIsi [.bl z, .ty "dict"] M Q = Q (.bl false) M := propext ⟨fun ⟨_, t, h, q⟩ => by cases h; exact q, fun q => ⟨by decide, "bool", rfl, q⟩⟩
theorem isi_int_int (z : Int) : gcIsi [.int z, .ty "int"] M Q = Q (.bl true) M := propext ⟨fun ⟨_, t, h, q⟩ => by cases h; exact q, fun q => ⟨by decide, "int", rfl, q⟩⟩
theorem isi_int_bool (z : Int) : gcIsi [.int z, .ty "bool"] M Q = Q (.bl false) M := propext ⟨fun ⟨_, t, h, q⟩ => by cases h; exact q, fun q => ⟨by decide, "int", rfl, q⟩⟩
theorem isi_int_str (z : Int) : gcIsi [.int z, .ty "str"] M Q = Q (.bl false) M := propext ⟨fun ⟨_, t, h, q⟩ => by cases h; exact q, fun q => ⟨by decide, "int", rfl, q⟩⟩
theorem isi_int_tuple (z : Int) : gcIsi [.int z, .ty "tuple"] M Q = Q (.bl false) M := propext ⟨fun ⟨_, t, h, q⟩ => by cases h; exact q, fun q => ⟨by decide, "int", rfl, q⟩⟩
theorem isi_int_list (z : Int) : gcIsi [.int z, .ty "list"] M Q = Q (.bl false) M := propext ⟨fun ⟨_, t, h, q⟩ => by cases h; exact q, fun q => ⟨by decide, "int", rfl, q⟩⟩
theorem isi_int_dict (z : Int) : gcIsi [.int z, .ty "dict"] M Q = Q (.bl false) M := propext ⟨fun ⟨_, t, h, q⟩ => by cases h; exact q, fun q => ⟨by decide, "int", rfl, q⟩⟩
theorem isi_str_int (z : PySem.Str) : gcIsi [.str z, .ty "int"] M Q = Q (.bl false) M := propext ⟨fun ⟨_, t, h, q⟩ => by cases h; exact q, fun q => ⟨by decide, "str", rfl, q⟩⟩
theorem isi_str_bool (z : PySem.Str) : gcIsi [.str z, .ty "bool"] M Q = Q (.bl false) M := propext ⟨fun ⟨_, t, h, q⟩ => by cases h; exact q, fun q => ⟨by decide, "str", rfl, q⟩⟩
theorem isi_str_str (z : PySem.Str) : gcIsi [.str z, .ty "str"] M Q = Q (.bl true) M := propext ⟨fun ⟨_, t, h, q⟩ => by cases h; exact q, fun q => ⟨by decide, "str", rfl, q⟩⟩
theorem isi_str_tuple (z : PySem.Str) : gcIsi [.str z, .ty "tuple"] M Q = Q (.bl false) M := propext ⟨fun ⟨_, t, h, q⟩ => by cases h; exact q, fun q => ⟨by decide, "str", rfl, q⟩⟩
theorem isi_str_list (z : PySem.Str) : gcIsi [.str z, .ty "list"] M Q = Q (.bl false) M := propext ⟨fun ⟨_, t, h, q⟩ => by cases h; exact q, fun q => ⟨by decide, "str", rfl, q⟩⟩
theorem isi_str_dict (z : PySem.Str) : gcIsi [.str z, .ty "dict"] M Q = Q (.bl false) M := propext ⟨fun ⟨_, t, h, q⟩ => by cases h; exact q, fun q => ⟨by decide, "str", rfl, q⟩⟩
theorem isi_tup_int (z : List D) : gcIsi [.tup z, .ty "int"] M Q = Q (.bl false) M := propext ⟨fun ⟨_, t, h, q⟩ => by cases h; exact q, fun q => ⟨by decide, "tuple", rfl, q⟩⟩
theorem isi_tup_bool (z : List D) : gcIsi [.tup z, .ty "bool"] M Q = Q (.bl false) M := propext ⟨fun ⟨_, t, h, q⟩ => by cases h; exact q, fun q => ⟨by decide, "tuple", rfl, q⟩⟩
theorem isi_tup_str (z : List D) : gcIsi [.tup z, .ty "str"] M Q = Q (.bl false) M := propext ⟨fun ⟨_, t, h, q⟩ => by cases h; exact q, fun q => ⟨by decide, "tuple", rfl, q⟩⟩
theorem isi_tup_tuple (z : List D) : gcIsi [.tup z, .ty "tuple"] M Q = Q (.bl true) M := propext ⟨fun ⟨_, t, h, q⟩ => by cases h; exact q, fun q => ⟨by decide, "tuple", rfl, q⟩⟩
theorem isi_tup_list (z : List D) : gcIsi [.tup z, .ty "list"] M Q = Q (.bl false) M := propext ⟨fun ⟨_, t, h, q⟩ => by cases h; exact q, fun q => ⟨by decide, "tuple", rfl, q⟩⟩
theorem isi_tup_dict (z : List D) : gcIsi [.tup z, .ty "dict"] M Q = Q (.bl false) M := propext ⟨fun ⟨_, t, h, q⟩ => by cases h; exact q, fun q => ⟨by decide, "tuple", rfl, q⟩⟩
theorem isi_lst_int (z : List D) : gcIsi [.lst z, .ty "int"] M Q = Q (.bl false) M := propext ⟨fun ⟨_, t, h, q⟩ => by cases h; exact q, fun q => ⟨by decide, "list", rfl, q⟩⟩
theorem isi_lst_bool (z : List D) : gcIsi [.lst z, .ty "bool"] M Q = Q (.bl false) M := propext ⟨fun ⟨_, t, h, q⟩ => by cases h; exact q, fun q => ⟨by decide, "list", rfl, q⟩⟩
theorem isi_lst_str (z : List D) : gcIsi [.lst z, .ty "str"] M Q = Q (.bl false) M := propext ⟨fun ⟨_, t, h, q⟩ => by cases h; exact q, fun q => ⟨by decide, "list", rfl, q⟩⟩
theorem isi_lst_tuple (z : List D) : gcIsi [.lst z, .ty "tuple"] M Q = Q (.bl false) M := propext ⟨fun ⟨_, t, h, q⟩ => by cases h; exact q, fun q => ⟨by decide, "list", rfl, q⟩⟩
theorem isi_lst_list (z : List D) : gcIsi [.lst z, .ty "list"] M Q = Q (.bl true) M := propext ⟨fun ⟨_, t, h, q⟩ => by cases h; exact q, fun q => ⟨by decide, "list", rfl, q⟩⟩
theorem isi_lst_dict (z : List D) : gcIsi [.lst z, .ty "dict"] M Q = Q (.bl false) M := propext ⟨fun ⟨_, t, h, q⟩ => by cases h; exact q, fun q => ⟨by decide, "list", rfl, q⟩⟩
theorem isi_dic_int (z : List (Key × D)) : gcIsi [.dic z, .ty "int"] M Q = Q (.bl false) M := propext ⟨fun ⟨_, t, h, q⟩ => by cases h; exact q, fun q => ⟨by decide, "dict", rfl, q⟩⟩
theorem isi_dic_bool (z : List (Key × D)) : gcIsi [.dic z, .ty "bool"] M Q = Q (.bl false) M := propext ⟨fun ⟨_, t, h, q⟩ => by cases h; exact q, fun q => ⟨by decide, "dict", rfl, q⟩⟩
theorem isi_dic_str (z : List (Key × D)) : gcIsi [.dic z, .ty "str"] M Q = Q (.bl false) M := propext ⟨fun ⟨_, t, h, q⟩ => by cases h; exact q, fun q => ⟨by decide, "dict", rfl, q⟩⟩
theorem isi_dic_tuple (z : List (Key × D)) : gcIsi [.dic z, .ty "tuple"] M Q = Q (.bl false) M := propext ⟨fun ⟨_, t, h, q⟩ => by cases h; exact q, fun q => ⟨by decide, "dict", rfl, q⟩⟩
theorem isi_dic_list (z : List (Key × D)) : gcIsi [.dic z, .ty "list"] M Q = Q (.bl false) M := propext ⟨fun ⟨_, t, h, q⟩ => by cases h; exact q, fun q => ⟨by decide, "dict", rfl, q⟩⟩
theorem isi_dic_dict (z : List (Key × D)) : gcIsi [.dic z, .ty "dict"] M Q = Q (.bl true) M := propext ⟨fun ⟨_, t, h, q⟩ => by cases h; exact q, fun q => ⟨by decide, "dict", rfl, q⟩⟩
end
end DL
set_option Elab.async false
set_option linter.all false
namespace DL
open PySem PySem.Spec PySem.W PyProof.Rows L2
section
variable {M : Mem} {Q : D → Mem → Prop} {r : DL.Fr} {b : Bool} {A B : Prop}
def blK (z : D) (A B : Prop) : Prop := match z with
  | .bl true => A
  | .bl false => B
  | _ => False
theorem blK_bl : blK (.bl b) A B = if b = true then A else B := by cases b <;> simp [blK]
theorem gAndV_k {ga gb : GE} : gAndV ga gb r M Q = ga r M fun d M1 => blK d (gb r M1 Q) (Q (.bl false) M1) := rfl
theorem gOrV_k {ga gb : GE} : gOrV ga gb r M Q = ga r M fun d M1 => blK d (Q (.bl true) M1) (gb r M1 Q) := rfl
theorem gCh_k {go go' : GO} {ga gb gc : GE} : gCh go go' ga gb gc r M Q = ga r M fun d M1 => gb r M1 fun e M2 => go d e M2 fun z M3 => blK z (gc r M3 fun f M4 => go' e f M4 Q) (Q (.bl false) M3) := rfl
theorem ite_bf : (if b = false then A else B) = if b = true then B else A := by cases b <;> simp
end
mutual
/-- data: no reference, no type within -/
def D.da : D → Bool
  | .ref _ | .ty _ => false
  | .tup xs | .lst xs => D.daL xs
  | .dic kvs => D.daK kvs
  | _ => true
def D.daL : List D → Bool
  | [] => true
  | d :: r => d.da && D.daL r
def D.daK : List (Key × D) → Bool
  | [] => true
  | (_, d) :: r => d.da && D.daK r
end
theorem D.daL_mem : ∀ {ds : List D}, D.daL ds = true → ∀ d ∈ ds, d.da = true
  | d :: r, h, e, he => by
    have h' : (d.da && D.daL r) = true := h
    rw [Bool.and_eq_true] at h'
    rcases List.mem_cons.mp he with rfl | he
    · exact h'.1
    · exact D.daL_mem h'.2 e he
theorem D.daL_of : ∀ {ds : List D}, (∀ d ∈ ds, d.da = true) → D.daL ds = true
  | [], _ => rfl
  | d :: r, h => by
    show (d.da && D.daL r) = true
    rw [h d (List.mem_cons_self ..), D.daL_of fun x hx => h x (List.mem_cons_of_mem _ hx)]
    rfl
theorem D.da_tup {xs : List D} : D.da (.tup xs) = D.daL xs := by simp only [D.da]
theorem D.da_lst {xs : List D} : D.da (.lst xs) = D.daL xs := by simp only [D.da]
theorem sz0 : (0 < sizeLine) = True := by rw [sizeLine_eq]; decide
theorem sz1 : (1 < sizeLine) = True := by rw [sizeLine_eq]; decide
theorem sz2 : (2 < sizeLine) = True := by rw [sizeLine_eq]; decide
theorem sz3 : (3 < sizeLine) = True := by rw [sizeLine_eq]; decide
theorem sz4 : (4 < sizeLine) = True := by rw [sizeLine_eq]; decide
theorem sz5 : (5 < sizeLine) = True := by rw [sizeLine_eq]; decide
theorem sz6 : (6 < sizeLine) = True := by rw [sizeLine_eq]; decide
theorem sz7 : (7 < sizeLine) = True := by rw [sizeLine_eq]; decide
theorem sz8 : (8 < sizeLine) = True := by rw [sizeLine_eq]; decide
theorem sz9 : (9 < sizeLine) = True := by rw [sizeLine_eq]; decide
theorem se0 : (0 ≤ sizeLine) = True := by rw [sizeLine_eq]; decide
theorem se1 : (1 ≤ sizeLine) = True := by rw [sizeLine_eq]; decide
theorem se2 : (2 ≤ sizeLine) = True := by rw [sizeLine_eq]; decide
theorem se3 : (3 ≤ sizeLine) = True := by rw [sizeLine_eq]; decide
theorem se4 : (4 ≤ sizeLine) = True := by rw [sizeLine_eq]; decide
theorem se5 : (5 ≤ sizeLine) = True := by rw [sizeLine_eq]; decide
theorem se6 : (6 ≤ sizeLine) = True := by rw [sizeLine_eq]; decide
theorem se7 : (7 ≤ sizeLine) = True := by rw [sizeLine_eq]; decide
theorem se8 : (8 ≤ sizeLine) = True := by rw [sizeLine_eq]; decide
theorem se9 : (9 ≤ sizeLine) = True := by rw [sizeLine_eq]; decide
end DL
set_option Elab.async false
set_option linter.all false
namespace DL
open PySem PySem.Spec PySem.W PyProof.Rows L2
end DL
set_option Elab.async false
set_option linter.all false
set_option maxRecDepth 100000
namespace DL
open PySem PySem.Spec PySem.W PyProof.Rows L2
def putFl (f : PySem.Str) (v : Fl) : List (PySem.Str × Fl) → List (PySem.Str × Fl)
  | [] => [(f, v)]
  | (g, x) :: r => if g = f then (g, v) :: r else (g, x) :: putFl f v r
section
variable {K : PySem.W.Frag} {A : Addr → Prop} {H : Hp} {O : Own} {a : Addr}
theorem FlsOk.look {f : PySem.Str} {d : D} : ∀ {vs : List (PySem.Str × V)} {fs : List (PySem.Str × Fl)}, FlsOk K A H O a vs fs → fs.lookup f = some (.v d) → ∃ v, vs.lookup f = some v ∧ Is K A H v d
  | _, _, .nil, h => by cases h
  | _, _, @FlsOk.v _ _ _ _ _ g v' d' vs' fs' i t, h => by
    cases hb : (f == g) with
    | true =>
      simp only [List.lookup, hb] at h ⊢
      cases h
      exact ⟨_, rfl, i⟩
    | false =>
      simp only [List.lookup, hb] at h ⊢
      exact FlsOk.look t h
  | _, _, @FlsOk.o _ _ _ _ _ g l m vs' fs' oo i t, h => by
    cases hb : (f == g) with
    | true =>
      simp only [List.lookup, hb] at h
      cases h
    | false =>
      simp only [List.lookup, hb] at h ⊢
      exact FlsOk.look t h
theorem FlsOk.no {f : PySem.Str} : ∀ {vs : List (PySem.Str × V)} {fs : List (PySem.Str × Fl)}, FlsOk K A H O a vs fs → fs.lookup f = none → vs.lookup f = none
  | _, _, .nil, h => rfl
  | _, _, @FlsOk.v _ _ _ _ _ g v' d' vs' fs' i t, h => by
    cases hb : (f == g) with
    | true =>
      simp only [List.lookup, hb] at h
      cases h
    | false =>
      simp only [List.lookup, hb] at h ⊢
      exact FlsOk.no t h
  | _, _, @FlsOk.o _ _ _ _ _ g l m vs' fs' oo i t, h => by
    cases hb : (f == g) with
    | true =>
      simp only [List.lookup, hb] at h
      cases h
    | false =>
      simp only [List.lookup, hb] at h ⊢
      exact FlsOk.no t h
theorem FlsOk.put {f : PySem.Str} {v : V} {d : D} (q : Is K A H v d) : ∀ {vs : List (PySem.Str × V)} {fs : List (PySem.Str × Fl)}, FlsOk K A H O a vs fs → FlsOk K A H O a (putF f v vs) (putFl f (.v d) fs)
  | _, _, .nil => .v q .nil
  | _, _, @FlsOk.v _ _ _ _ _ g v' d' vs' fs' i t => by
    show FlsOk K A H O a (if g = f then (g, v) :: vs' else (g, v') :: putF f v vs') (if g = f then (g, .v d) :: fs' else (g, .v d') :: putFl f (.v d) fs')
    split
    · exact .v q t
    · exact .v i (FlsOk.put q t)
  | _, _, @FlsOk.o _ _ _ _ _ g l m vs' fs' oo i t => by
    show FlsOk K A H O a (if g = f then (g, v) :: vs' else (g, .ref l) :: putF f v vs') (if g = f then (g, .v d) :: fs' else (g, .o m) :: putFl f (.v d) fs')
    split
    · exact .v q t
    · exact .o oo i (FlsOk.put q t)
theorem FlsOk.len : ∀ {vs : List (PySem.Str × V)} {fs : List (PySem.Str × Fl)}, FlsOk K A H O a vs fs → vs.length = fs.length
  | _, _, .nil => rfl
  | _, _, .v _ t => congrArg (· + 1) (FlsOk.len t)
  | _, _, .o _ _ t => congrArg (· + 1) (FlsOk.len t)
end
section
variable {X : Cx} {w p w1 w2 : Bool} {o e a b : Expr} {es : List Expr} {g ga gb ge go : GE} {gs : GA} {B : Addr → Prop} {E : En} {σ : L2.St} {H H' : Hp} {r : DL.Fr} {M M' : Mem} {O O' : Own} {pos pos' apos cpos : Pos} {l : Addr} {f : PySem.Str}
/-- e.f -/
def fldK (K : PySem.W.Frag) (f : PySem.Str) (d : D) (M : Mem) (Q : D → Mem → Prop) : Prop := match d with
  | .ref a => match M a with
    | some (.ins C fs) => (Cls K C ∧ NoAttr K C f) ∧ (match fs.lookup f with
      | some (.v z) => Q z M
      | _ => False)
    | _ => False
  | _ => False
theorem fldK_ref {K : PySem.W.Frag} {a : Addr} {Q : D → Mem → Prop} : fldK K f (.ref a) M Q = match M a with
    | some (.ins C fs) => (Cls K C ∧ NoAttr K C f) ∧ (match fs.lookup f with
      | some (.v z) => Q z M
      | _ => False)
    | _ => False := rfl
def gFld (K : PySem.W.Frag) (f : PySem.Str) (ga : GE) : GE := fun r M Q => ga r M fun d M1 => fldK K f d M1 Q
theorem fldK_mono {K : PySem.W.Frag} {d : D} {Q Q' : D → Mem → Prop} (h : ∀ d M', Q d M' → Q' d M') (q : fldK K f d M Q) : fldK K f d M Q' := by
  unfold fldK at q ⊢
  split at q
  · split at q
    · refine ⟨q.1, ?_⟩
      have q2 := q.2
      split at q2
      · exact h _ _ q2
      · exact q2.elim
    · exact q.elim
  · exact q.elim
theorem de_fld (ha : DE w p X e ga) (hb : attributeBase e f X.env (eval e X.env) = eval e X.env := by rfl) : DE true p X (.Attribute e f pos) (gFld X.K f ga) := by
  refine ⟨peI (pe_fld ha.run hb) fun σ H Q ⟨B, E, r, M, O, R, q⟩ => ?_, fun r M Q Q' h q => ha.mono r M _ _ (fun d M1 q1 => fldK_mono h q1) q⟩
  refine ha.on R q fun d M1 v H1 O1 k1 R1 l1 i1 => ?_
  unfold fldK at k1
  split at k1
  · rename_i a
    have := is1_ref i1.one
    subst this
    split at k1
    · rename_i C fs em
      obtain ⟨_, _, dx, vs, e1, e2⟩ := R1.m.mem _ _ em
      obtain ⟨⟨c1, c2⟩, k2⟩ := k1
      split at k2
      · rename_i z ez
        obtain ⟨u, hu, iu⟩ := e2.look ez
        exact ⟨a, C, dx, vs, u, rfl, e1, c1, c2, hu, k2 u H1 O1 R1 l1 iu⟩
      · exact k2.elim
    · exact k1.elim
  · exact k1.elim
/-- o.f = e -/
def putFK (K : PySem.W.Frag) (f : PySem.Str) (z d : D) (M : Mem) (Q : Mem → Prop) : Prop := match d with
  | .ref a => match M a with
    | some (.ins C fs) => (Cls K C ∧ NoAttr K C f) ∧ fs.length < 1000 ∧ Q (mup M a (.ins C (putFl f (.v z) fs)))
    | _ => False
  | _ => False
theorem putFK_ref {K : PySem.W.Frag} {a : Addr} {z : D} {Q : Mem → Prop} : putFK K f z (.ref a) M Q = match M a with
    | some (.ins C fs) => (Cls K C ∧ NoAttr K C f) ∧ fs.length < 1000 ∧ Q (mup M a (.ins C (putFl f (.v z) fs)))
    | _ => False := rfl
def gPutF (K : PySem.W.Frag) (f : PySem.Str) (ga ge : GE) : GS := fun D r M => ge r M fun z M1 => ga r M1 fun d M2 => putFK K f z d M2 fun M3 => D.nx r M3
theorem putFK_mono {K : PySem.W.Frag} {z d : D} {Q Q' : Mem → Prop} (h : ∀ M', Q M' → Q' M') (q : putFK K f z d M Q) : putFK K f z d M Q' := by
  unfold putFK at q ⊢
  split at q
  · split at q
    · exact ⟨q.1, q.2.1, h _ q.2.2⟩
    · exact q.elim
  · exact q.elim
theorem step_upd {u : HO} (hl : Av B M O l) : Step (Av B M O) H (Av B M O) (upd H l u) := fun b o e nb => ⟨by rw [upd_ne fun z => nb (by rw [z]; exact hl)]; exact e, nb⟩
theorem ds_fld (ha : DE w1 p X o ga) (he : DE true p X e ge) (hs : swapsWith e (some (.Attribute o f pos')) pos.line X.env = pure false := by rfl) : DS X (.Assign [.Attribute o f pos'] e pos) (gPutF X.K f ga ge) := by
  refine ⟨psI (ps_fld ha.run he.run hs) fun D σ H ⟨B, E, r, M, O, R, q⟩ => ?_, fun D D' r M l q => he.mono _ _ _ _ (fun z M1 q1 => ha.mono _ _ _ _ (fun d M2 q2 => putFK_mono (fun _ q => l.nx _ _ q) q2) q1) q⟩
  refine he.on R q fun z M1 y H1 O1 k1 R1 l1 i1 => ?_
  refine ha.on R1 k1 fun d M2 v H2 O2 k2 R2 l2 i2 => ?_
  have i1' : Is X.K (Av B M2 O2) H2 y z := Is.step l2.avs i1
  unfold putFK at k2
  split at k2
  · rename_i a
    have := is1_ref i2.one
    subst this
    split at k2
    · rename_i C fs em
      obtain ⟨_, nO, dx, vs, e1, e2⟩ := R2.m.mem _ _ em
      obtain ⟨⟨c1, c2⟩, c3, k3⟩ := k2
      have hav : Av B M2 O2 a := .inr (.inl (by rw [em]; simp))
      refine ⟨a, C, dx, vs, rfl, e1, c1, c2, by rw [e2.len]; exact c3, ?_⟩
      refine k3 _ _ O2 (R2.mutM (m' := .ins C (putFl f (.v z) fs)) em ⟨dx, putF f y vs, upd_same, ?_⟩).1
      refine FlsOk.put (i1'.step (step_upd hav)) (e2.stepS (step_upd hav) fun l f q => ⟨q, fun o e => ?_⟩)
      rw [upd_ne (fun z => by subst z; rw [nO] at q; cases q)]
      exact e
    · exact k2.elim
  · exact k2.elim
/-- o.f = [..], list(..): a new list in memory -/
def gPutFM (K : PySem.W.Frag) (f : PySem.Str) (ga : GE) (gf : GF) : GS := fun D r M => gf r M fun m M1 => ∀ l, M1 l = none → ga r (mup M1 l (.om m)) fun d M2 => putFK K f (.ref l) d M2 fun M3 => D.nx r M3
theorem ds_fldM {gf : GF} (ha : DE w1 p X o ga) (he : DF p X e gf) (hs : swapsWith e (some (.Attribute o f pos')) pos.line X.env = pure false := by rfl) : DS X (.Assign [.Attribute o f pos'] e pos) (gPutFM X.K f ga gf) := by
  refine ⟨psI (ps_fld ha.run he.run hs) fun D σ H ⟨B, E, r, M, O, R, q⟩ => ?_, fun D D' r M l q => he.mono _ _ _ _ (fun m M1 q1 a h => ha.mono _ _ _ _ (fun d M2 q2 => putFK_mono (fun _ q => l.nx _ _ q) q2) (q1 a h)) q⟩
  refine he.on R q (Q := fun y H1 => ∃ B E r M O, Rep X B E σ H1 r M O ∧ ga r M (LE w1 p X B E σ r H1 M O fun x H2 => ∃ a C dx fs, x = .ref a ∧ H2 a = some (.ins C dx fs) ∧ Cls X.K C ∧ NoAttr X.K C f ∧ fs.length < 1000 ∧ D.nx σ (upd H2 a (.ins C dx (putF f y fs))))) fun m M1 n H1 O1 k1 N1 l1 i1 => ?_
  have R1 := N1.toMem (m := .om m) i1
  refine ha.on R1 (k1 n N1.mnone) fun d M2 v H2 O2 k2 R2 l2 i2 => ?_
  unfold putFK at k2
  split at k2
  · rename_i a
    have := is1_ref i2.one
    subst this
    split at k2
    · rename_i C fs em
      obtain ⟨_, nO, dx, vs, e1, e2⟩ := R2.m.mem _ _ em
      obtain ⟨⟨c1, c2⟩, c3, k3⟩ := k2
      have hav : Av B M2 O2 a := .inr (.inl (by rw [em]; simp))
      refine ⟨a, C, dx, vs, rfl, e1, c1, c2, by rw [e2.len]; exact c3, ?_⟩
      refine k3 _ _ O2 (R2.mutM (m' := .ins C (putFl f (.v (.ref n)) fs)) em ⟨dx, putF f (.ref n) vs, upd_same, ?_⟩).1
      refine FlsOk.put (Is.ref n) (e2.stepS (step_upd hav) fun l f q => ⟨q, fun o e => ?_⟩)
      rw [upd_ne (fun z => by subst z; rw [nO] at q; cases q)]
      exact e
    · exact k2.elim
  · exact k2.elim
/-- what stands there, seen as it is now -/
def drfK (d : D) (M : Mem) (Q : D → Mem → Prop) : Prop := match d with
  | .ref l => match M l with
    | some (.om (.lst ds)) => Q (.lst ds) M
    | some (.om (.dic ds)) => Q (.dic ds) M
    | _ => False
  | _ => False
theorem drfK_ref {Q : D → Mem → Prop} : drfK (.ref l) M Q = match M l with
    | some (.om (.lst ds)) => Q (.lst ds) M
    | some (.om (.dic ds)) => Q (.dic ds) M
    | _ => False := rfl
def gDrf (ga : GE) : GE := fun r M Q => ga r M fun d M1 => drfK d M1 Q
theorem de_drf (ha : DE w p X e ga) : DE false p X e (gDrf ga) := by
  refine ⟨peI ha.run fun σ H Q ⟨B, E, r, M, O, R, q⟩ => ?_, fun r M Q Q' h q => ha.mono r M _ _ (fun d M1 q1 => ?_) q⟩
  · refine ha.on R q fun d M1 v H1 O1 k1 R1 l1 i1 => ?_
    unfold drfK at k1
    split at k1
    · rename_i l
      have := is1_ref i1.one
      subst this
      split at k1
      · rename_i ds em
        obtain ⟨_, _, vs, e1, e2⟩ := R1.m.mem _ _ em
        exact k1 _ H1 O1 R1 l1 ⟨l, vs, rfl, e1, e2⟩
      · rename_i ds em
        obtain ⟨_, _, vs, e1, e2⟩ := R1.m.mem _ _ em
        exact k1 _ H1 O1 R1 l1 ⟨l, vs, rfl, .inl e1, e2⟩
      · exact k1.elim
    · exact k1.elim
  · unfold drfK at q1 ⊢
    split at q1
    · split at q1
      · exact h _ _ q1
      · exact h _ _ q1
      · exact q1.elim
    · exact q1.elim
def mlK (d : D) (M : Mem) (k : Addr → List D → Prop) : Prop := match d with
  | .ref l => match M l with
    | some (.om (.lst ds)) => k l ds
    | _ => False
  | _ => False
theorem mlK_ref {k : Addr → List D → Prop} : mlK (.ref l) M k = match M l with
    | some (.om (.lst ds)) => k l ds
    | _ => False := rfl
/-- o.append(e) -/
def gMApp (go ge : GE) : GS := fun D r M => go r M fun d M1 => mlK d M1 fun l _ => ge r M1 fun z M2 => mlK (.ref l) M2 fun l ds => ds.length < sizeLine ∧ D.nx r (mup M2 l (.om (.lst (ds ++ [z]))))
end
end DL
set_option Elab.async false
set_option linter.all false
set_option maxRecDepth 100000
namespace DL
open PySem PySem.Spec PySem.W PyProof.Rows L2
section
variable {X : Cx} {w p w1 w2 : Bool} {o e a b : Expr} {es : List Expr} {g ga gb ge go : GE} {gs : GA} {B : Addr → Prop} {E : En} {σ : L2.St} {H H' : Hp} {r : DL.Fr} {M M' : Mem} {O O' : Own} {pos pos' apos cpos : Pos} {l : Addr} {f : PySem.Str}
/-- o.pop(i) -/
def popK (z : D) (ds : List D) (k : D → List D → Prop) : Prop := match z with
  | .int i => (0 ≤ i ∧ i < ds.length ∧ i < 2 ^ 62) ∧ match ds[i.toNat]? with
    | some y => k y (ds.eraseIdx i.toNat)
    | none => False
  | _ => False
theorem popK_int {i : Int} {ds : List D} {k : D → List D → Prop} : popK (.int i) ds k = ((0 ≤ i ∧ i < ds.length ∧ i < 2 ^ 62) ∧ match ds[i.toNat]? with
    | some y => k y (ds.eraseIdx i.toNat)
    | none => False) := rfl
def gMPop (go ge : GE) : GE := fun r M Q => go r M fun d M1 => mlK d M1 fun l _ => ge r M1 fun z M2 => mlK (.ref l) M2 fun l ds => popK z ds fun y ds' => Q y (mup M2 l (.om (.lst ds')))
theorem Rl.mutM {M' : Mem} (s : Step (Mut M O) H (Mut M' O) H') : Rl false M O H M' O H' := ⟨fun z => (nomatch z), s⟩
/-- o.insert(i, e) -/
def insK (z : D) (ds : List D) (y : D) (k : List D → Prop) : Prop := match z with
  | .int i => (0 ≤ i ∧ i < 2 ^ 62 ∧ ds.length < sizeLine) ∧ k (ds.take i.toNat ++ [y] ++ ds.drop i.toNat)
  | _ => False
theorem insK_int {i : Int} {ds : List D} {y : D} {k : List D → Prop} : insK (.int i) ds y k = ((0 ≤ i ∧ i < 2 ^ 62 ∧ ds.length < sizeLine) ∧ k (ds.take i.toNat ++ [y] ++ ds.drop i.toNat)) := rfl
def ins2K (zs ds : List D) (k : List D → Prop) : Prop := match zs with
  | [z, y] => insK z ds y k
  | _ => False
theorem ins2K_2 {z y : D} {ds : List D} {k : List D → Prop} : ins2K [z, y] ds k = insK z ds y k := rfl
def gMIns (go : GE) (gs : GA) : GS := fun D r M => go r M fun d M1 => mlK d M1 fun l _ => gs r M1 fun zs M2 => mlK (.ref l) M2 fun l ds => ins2K zs ds fun ds' => D.nx r (mup M2 l (.om (.lst ds')))
/-- a method's promise: of the class at C -/
structure DefM (P : Program) (w : World) (K : PySem.W.Frag) (mg : PySem.Str → Option Value) (base : Heap) (n : Nat) (C : Addr) (m : PySem.Str) (ks : List AK) (fs : FS) : Prop where
  ex : ∃ f fd ps, FnG P w K mg base n f fd ps (toSp K (.v :: ks) fs) ∧ Cls K C ∧ Meth K C m f ∧ Binds K fd ps []
  mo : MonoF fs
theorem DefM.mono {P : Program} {w : World} {K : PySem.W.Frag} {mg : PySem.Str → Option Value} {base : Heap} {j n : Nat} {C : Addr} {m : PySem.Str} {ks : List AK} {fs : FS} (D : DefM P w K mg base j C m ks fs) (h : j ≤ n := by decide) : DefM P w K mg base n C m ks fs :=
  let ⟨f, fd, ps, F, q⟩ := D.ex
  ⟨⟨f, fd, ps, F.mono h, q⟩, D.mo⟩
def mthK (m : PySem.Str) (tbl : List (Addr × FS)) (d : D) (M : Mem) (k : Addr → FS → Prop) : Prop := match d with
  | .ref a => match M a with
    | some (.ins C fl) => fl.lookup m = none ∧ ∃ fs, (C, fs) ∈ tbl ∧ k a fs
    | _ => False
  | _ => False
theorem mthK_ref {m : PySem.Str} {tbl : List (Addr × FS)} {k : Addr → FS → Prop} : mthK m tbl (.ref l) M k = match M l with
    | some (.ins C fl) => fl.lookup m = none ∧ ∃ fs, (C, fs) ∈ tbl ∧ k l fs
    | _ => False := rfl
def gMeth (m : PySem.Str) (tbl : List (Addr × FS)) (go : GE) (gs : GA) : GE := fun r M Q => go r M fun d M1 => mthK m tbl d M1 fun a fs => gs r M1 fun ds M2 => fs (.ref a :: ds) M2 Q r.ex
variable {n : Nat} {m : PySem.Str} {ks : List AK} {tbl : List (Addr × FS)}
theorem gMeth_mono (hT : ∀ q ∈ tbl, DefM X.prog X.w X.K X.mg X.base n q.1 m ks q.2) (hom : ∀ r M Q Q', (∀ d M', Q d M' → Q' d M') → go r M Q → go r M Q') (ham : ∀ r M Q Q', (∀ d M', Q d M' → Q' d M') → gs r M Q → gs r M Q') :
    ∀ r M Q Q', (∀ d M', Q d M' → Q' d M') → gMeth m tbl go gs r M Q → gMeth m tbl go gs r M Q' := fun r M Q Q' h q => hom _ _ _ _ (fun d M1 q1 => by
  unfold mthK at q1 ⊢
  split at q1
  · split at q1
    · obtain ⟨h1, fs, h2, h3⟩ := q1
      exact ⟨h1, fs, h2, ham _ _ _ _ (fun ds M2 q2 => (hT _ h2).mo _ _ _ _ _ _ h (fun _ _ z => z) q2) h3⟩
    · exact q1.elim
  · exact q1.elim) q
theorem de_meth0 {pl : Sem Bool} (hT : ∀ q ∈ tbl, DefM X.prog X.w X.K X.mg X.base n q.1 m [] q.2) (hr : Room n X.A) (hgd : X.A.guards = some []) (ho : DE w1 false X o go)
    (ht : eval (.Call (.Attribute o m apos) [] [] pos) X.env = (do
      let ov ← eval o X.env
      standAt apos.atName
      let (f, first) ← holding [ov] (getMethod ov m pl)
      callWith pos f first (backTo pos (starEach [] X.env)) (backToKw pos (keywordEach [] X.env))) := by rfl) :
    DE true false X (.Call (.Attribute o m apos) [] [] pos) (gMeth m tbl go gNil) := by
  refine ⟨⟨fun pins s σ H Q I ⟨B, E, r, M, O, R, q⟩ => ?_⟩, gMeth_mono hT ho.mono fun r M Q Q' h q => h _ _ q⟩
  have hq := ho.on R q (Q := fun x H1 => ∃ a C dx vs fs M1 O1, x = .ref a ∧ H1 a = some (.ins C dx vs) ∧ vs.lookup m = none ∧ DefM X.prog X.w X.K X.mg X.base n C m [] fs ∧ Rep X B E σ H1 r M1 O1 ∧ Rl false M O H M1 O1 H1 ∧
    fs [.ref a] M1 (LE true false X B E σ r H M O Q) r.ex) fun d M1 v H1 O1 k1 R1 l1 i1 => by
      unfold mthK at k1
      split at k1
      · rename_i l
        have := is1_ref i1.one
        subst this
        split at k1
        · rename_i C fl em
          obtain ⟨_, _, dx, vs, e1, e2⟩ := R1.m.mem _ _ em
          obtain ⟨h1, fs, h2, h3⟩ := k1
          exact ⟨l, C, dx, vs, fs, M1, O1, rfl, e1, e2.no h1, hT _ h2, R1, l1, h3⟩
        · exact k1.elim
      · exact k1.elim
  refine PySem.W.methodCall_KW (pl := pl) (thn (ho.run.run pins s σ H _ I hq) fun u s1 ⟨x, H1, I1, rx, a, C, dx, vs, fs, M1, O1, ex, ea, lk, D, R1, l1, k1⟩ => ?_) ht
  subst ex
  obtain rfl : u = Value.ref a := rx
  obtain ⟨f, fd, ps, F, c, hm, hb⟩ := D.ex
  refine getmeth_ok I1 ea c hm lk ?_
  exact PySem.W.callWith_K0 (first := [.ref a]) I1.kIn hm.kp (run_fg (us := [.ref a]) (vs := [.ref a]) F hr hgd hb R1.ps I1 (.cons rfl .nil)
    (callM_pre (ks := [.v]) (vs := [.ref a]) (ds := [.ref a]) R1 rfl ⟨Is.ref a, trivial⟩ (D.mo _ _ _ _ _ _ (fun d M' q2 => LE.go l1 q2) (fun C M' q2 => q2) k1) D.mo))
structure DefI (P : Program) (w : World) (K : PySem.W.Frag) (mg : PySem.Str → Option Value) (base : Heap) (n : Nat) (x : PySem.Str) (C : Addr) (ks : List AK) (Fk : Prop) (fs : FS) : Prop where
  ex : ∃ f fd ps, FnG P w K mg base n f fd ps (toSp K (.v :: ks) fs) ∧ Mk K C f ∧ Binds K fd ps []
  mo : MonoF fs
  g : mg x = some (.ref C)
  fk : Fk
theorem DefI.mono {P : Program} {w : World} {K : PySem.W.Frag} {mg : PySem.Str → Option Value} {base : Heap} {j n : Nat} {x : PySem.Str} {C : Addr} {ks : List AK} {Fk : Prop} {fs : FS} (D : DefI P w K mg base j x C ks Fk fs) (h : j ≤ n := by decide) : DefI P w K mg base n x C ks Fk fs :=
  let ⟨f, fd, ps, F, q⟩ := D.ex
  ⟨⟨f, fd, ps, F.mono h, q⟩, D.mo, D.g, D.fk⟩
/-- C(..): what is known of the class, then __init__ -/
def gMake (C : Addr) (Fk : Prop) (fs : FS) (gs : GA) : GE := fun r M Q => gs r M fun ds M1 => Fk → ∀ x, M1 x = none → fs (.ref x :: ds) (mup M1 x (.ins C [])) (fun d M2 => d = .non ∧ Q (.ref x) M2) r.ex
theorem run_mk {C f : Addr} {fd : FuncData} {ps : List PySem.Str} {sp : Sp} {Ex : XK} {pins : List (Addr × Obj)} {s : Shared} {Q : VK} {us : List Value} {vs : List V} (Mk0 : Mk X.K C f) (F : FnG X.prog X.w X.K X.mg X.base n f fd ps sp) (hr : Room (n + 1) X.A) (hgd : X.A.guards = some [])
    (hb : Binds X.K fd ps []) (hx : Passes (L2.CX X.prog X.w) X Ex) (I : Inv X pins σ H s) (rv : Vals vs us)
    (h : ∀ x dx, H x = none → H dx = none → dx ≠ x → sp (.ref x :: vs) (upd (upd H dx (.own x)) x (.ins C dx [])) (fun v H2 => v = .non ∧ Q (.ref x) H2) Ex) : wpAny (model X.prog X.w) X.A (call (.ref C) us) (EP X pins σ Q) X.xe s := by
  have hq := h (s.heap.objs.size + 1) s.heap.objs.size (I.hok.fresh (Nat.le_succ _)) (I.hok.fresh (Nat.le_refl _)) (Nat.ne_of_lt (Nat.lt_succ_self _))
  have I2 := Inv.made (C := C) I
  have r2 : Vals (V.ref (s.heap.objs.size + 1) :: vs) (Value.ref (s.heap.objs.size + 1) :: us) := .cons rfl rv
  have hl : ((Value.ref (s.heap.objs.size + 1) :: us) ++ []).length = ps.length := by
    rw [List.append_nil, ← r2.length]
    exact F.len _ _ _ _ hq
  have hbd := hb _ (Value.ref (s.heap.objs.size + 1) :: us) I2.kIn hl
  rw [List.append_nil] at hbd
  refine wpAny_call (make_map (f := f) I.kIn Mk0.makes Mk0.init (beq_iff_eq.mp Mk0.fn) (codeAny_mono (F.run _ X.stack _ _ ⟨Value.ref (s.heap.objs.size + 1) :: us, []⟩ (Value.ref (s.heap.objs.size + 1) :: us) _ _ Ex (hr.make C us []) hgd
    (I2.env0.make C us []) hbd r2 hq) fun r s' hq' => ?_))
  cases r with
  | error e => exact hx pins σ _ _ e s' I2 hq'
  | ok fl =>
    cases fl with
    | ret u =>
      obtain ⟨v, H', I3, rv, ev, q3⟩ := I2.after hq'
      subst ev
      exact ⟨rv, ⟨V.ref (s.heap.objs.size + 1), H', I3, rfl, q3⟩⟩
    | next => exact False.elim hq'
    | brk => exact False.elim hq'
    | cont => exact False.elim hq'
theorem args_step {K : PySem.W.Frag} {A A' U U' : Addr → Prop} (sA : Step A H A' H') (sU : Step U H U' H') : ∀ {ks : List AK} {vs : List V} {ds : List D}, vks ks = true → ArgsX K A U H ks vs ds → ArgsX K A' U' H' ks vs ds
  | [], [], [], _, _ => trivial
  | .v :: _, _ :: _, _ :: _, h, q => ⟨Is.step sA q.1, args_step sA sU (by simpa [vks] using h) q.2⟩
  | .s :: _, _ :: _, _ :: _, h, q => by
    obtain ⟨⟨a, ns, e1, e2, h3⟩, q2⟩ := q
    exact ⟨⟨a, ns, e1, e2, h3.step sU⟩, args_step sA sU (by simpa [vks] using h) q2⟩
  | .b :: _, _ :: _, _ :: _, h, _ => by simp [vks] at h
  | [], [], _ :: _, _, h => h.elim
  | [], _ :: _, [], _, h => h.elim
  | [], _ :: _, _ :: _, _, h => h.elim
  | _ :: _, [], [], _, h => h.elim
  | _ :: _, [], _ :: _, _, h => h.elim
  | _ :: _, _ :: _, [], _, h => h.elim
theorem make_pre {C : Addr} {fs : FS} (R : Rep X B E σ H r M O) {vs : List V} {ds : List D} (hv : vks ks = true) (ha : ArgsX X.K (Av B M O) (Mut M O) H ks vs ds) {Q : VK} (hmf : MonoF fs)
    (h : ∀ x, M x = none → fs (.ref x :: ds) (mup M x (.ins C [])) (fun d M2 => d = .non ∧ LE true false X B E σ r H M O Q (.ref x) M2) r.ex) :
    ∀ x dx, H x = none → H dx = none → dx ≠ x → toSp X.K (.v :: ks) fs (.ref x :: vs) (upd (upd H dx (.own x)) x (.ins C dx [])) (fun v H2 => v = .non ∧ Q (.ref x) H2) (xk E.W) := by
  intro x dx nx ndx ne
  have R1 := R.same (same_upd (o := .own x) ndx)
  have nx1 : upd H dx (.own x) x = none := by rw [upd_ne (fun z => ne z.symm)]; exact nx
  have N := New.of R1 (o := .ins C dx []) nx1
  have R2 := N.toMem (m := .ins C []) ⟨dx, [], upd_same, .nil⟩
  have hx := h x N.mnone
  have sm : Same H (upd (upd H dx (.own x)) x (.ins C dx [])) := fun a o e => by
    rw [upd_ne (ne_of_none e nx), upd_ne (ne_of_none e ndx)]
    exact e
  have nav := R.m.fresh nx
  have sU : Step (Mut M O) H (Mut (mup M x (.ins C [])) O) (upd (upd H dx (.own x)) x (.ins C dx [])) := fun a o e n => by
    refine ⟨sm a o e, ?_⟩
    rw [mut_mupN]
    exact fun z => z.elim n fun z => by subst z; rw [nx] at e; cases e
  have lz : Rl false M O H (mup M x (.ins C [])) O (upd (upd H dx (.own x)) x (.ins C dx [])) := Rl.mutM sU
  refine callM_pre (ks := .v :: ks) (vs := .ref x :: vs) (ds := .ref x :: ds) R2 (by simpa [vks] using hv) ⟨Is.ref x, ?_⟩ (hmf _ _ _ _ _ _ (fun d M' q2 => ?_) (fun C M' q2 => q2) hx) hmf
  · exact args_step lz.avs sU hv ha
  · intro v H3 O3 R3 l3 i3
    obtain ⟨rfl, q3⟩ := q2
    have i3 : Is X.K (Av B M' O3) H3 v .non := i3
    cases i3
    exact ⟨rfl, q3 _ H3 O3 R3 (lz.trans l3) (Is.ref x)⟩
theorem de_make {x : PySem.Str} {C : Addr} {Fk : Prop} {fs : FS} {pf : Pos} (D : DefI X.prog X.w X.K X.mg X.base n x C ks Fk fs) (hr : Room (n + 1) X.A) (hgd : X.A.guards = some []) (ha : DAk false X ks (e :: es) gs) (hv : vks ks = true := by rfl) (hg : Gl X x := by rfl)
    (hdb : (x == ("__debug__" : PySem.Str)) = false := by decide) (he : starEach (e :: es) X.env = (false, eval e X.env) :: starEach es X.env := by rfl) (hpl : (backTo pos (starEach es X.env)).any (·.1) = false := by rfl) :
    DE true false X (.Call (.Name x pf) (e :: es) [] pos) (gMake C Fk fs gs) := by
  obtain ⟨f, fd, ps, F, Mk0, hb⟩ := D.ex
  refine ⟨⟨fun pins s σ H Q I ⟨B, E, r, M, O, R, q⟩ => ?_⟩, fun r M Q Q' h q => ha.mono _ _ _ _ (fun ds M1 q1 hf x hx => D.mo _ _ _ _ _ _ (fun d M2 q2 => ⟨q2.1, h _ _ q2.2⟩) (fun _ _ z => z) (q1 hf x hx)) q⟩
  refine wpAny_Call_Name_kw (ld_glob I hg D.g ?_ hdb)
  have hq := ha.on R q (Q := fun vs H1 => Passes (L2.CX X.prog X.w) X (xk E.W) ∧ ∀ x dx, H1 x = none → H1 dx = none → dx ≠ x → toSp X.K (.v :: ks) fs (.ref x :: vs) (upd (upd H1 dx (.own x)) x (.ins C dx [])) (fun v H2 => v = .non ∧ Q (.ref x) H2) (xk E.W))
    fun ds M1 vs H1 O1 k1 R1 l1 i1 => ⟨R1.ps, make_pre R1 hv i1 D.mo fun x hx => D.mo _ _ _ _ _ _ (fun d M2 q2 => ⟨q2.1, LE.go l1 q2.2⟩) (fun _ _ z => z) (k1 D.fk x hx)⟩
  refine PySem.W.callWith_K (h₀ := X.base) I.ok.mod.kin Mk0.kp (thn (ha.run.run pos pins s σ H _ I hq) fun us s1 ⟨vs, H1, I1, r1, lk, qq⟩ => ⟨I1.kIn, ?_⟩) he hpl
  exact run_mk Mk0 F hr hgd hb lk I1 r1 qq
end
end DL
set_option Elab.async false
set_option linter.all false
set_option maxRecDepth 100000
namespace DL
open PySem PySem.Spec PySem.W PyProof.Rows L2
theorem ixT_ints {ns : List Int} {i : Int} {k : Nat → Prop} : ixT (ns.map .int) (.int i) k = (i ∈ ns ∧ k (ns.idxOf i)) := by
  unfold ixT
  rw [intsOf_map]
section
variable {X : Cx} {w p w1 w2 : Bool} {tg e a b : Expr} {g ga gb : GE} {gs : GA} {B : Addr → Prop} {E : En} {σ : L2.St} {H H' : Hp} {r : DL.Fr} {M M' : Mem} {O O' : Own} {pos pos' : Pos}
/-- lo, lo + c, .. -/
def rngC (lo c : Int) (n : Nat) : List D := (List.range n).map fun (i : Nat) => D.int (lo + (i : Int) * c)
theorem rngC_get {lo c : Int} {n i : Nat} {d : D} (h : (rngC lo c n)[i]? = some d) : i < n ∧ d = .int (lo + (i : Int) * c) := by
  unfold rngC at h
  rw [List.getElem?_map] at h
  cases q : (List.range n)[i]? with
  | none => rw [q] at h; cases h
  | some j =>
    rw [q] at h
    obtain ⟨h1, h2⟩ := List.getElem?_eq_some_iff.mp q
    rw [List.length_range] at h1
    rw [List.getElem_range] at h2
    subst h2
    have h : some (D.int (lo + ((i : Nat) : Int) * c)) = some d := h
    cases h
    exact ⟨h1, rfl⟩
theorem rngC_len (lo c : Int) (n : Nat) : (rngC lo c n).length = n := by unfold rngC; rw [List.length_map, List.length_range]
theorem walk_rngC {H1 : Hp} {M1 : Mem} {O1 : Own} {lo c : Int} {n : Nat} : WalkOk X B H1 M1 O1 (Itc lo c n) (rngC lo c n) := by
  intro A U H fA sA s i
  refine ⟨fun d hd => ?_, fun hle => by rw [rngC_len] at hle; exact hle⟩
  obtain ⟨h1, rfl⟩ := rngC_get hd
  refine ⟨h1, fun x H' ⟨e1, e2⟩ => ?_⟩
  subst e1; subst e2
  exact ⟨Same.refl _, .int _⟩
def giR3 (gs : GA) : GI := fun r M Q => gs r M fun ds M1 => match ds with
  | [.int i, .int j, .int c] => ∃ n, RgC i j c n ∧ Q (rngC i c n) M1
  | _ => False
theorem isXL3 {K : PySem.W.Frag} {A : Addr → Prop} {H : Hp} {vs : List V} {d1 d2 d3 : D} (h : IsL K A H vs [d1, d2, d3]) : ∃ u v x, vs = [u, v, x] ∧ Is K A H u d1 ∧ Is K A H v d2 ∧ Is K A H x d3 := by
  cases h with
  | cons h1 t => cases t with
    | cons h2 t => cases t with
      | cons h3 t => cases t; exact ⟨_, _, _, rfl, h1, h2, h3⟩
theorem di_range3 {c : Expr} {pf : Pos} (hg : Gl X "range") (hm : X.mg "range" = none) (ha : DA true p X [a, b, c] gs) (hs : starEach [a, b, c] X.env = (false, eval a X.env) :: starEach [b, c] X.env := by rfl) (hpl : (backTo pos (starEach [b, c] X.env)).any (·.1) = false := by rfl) : DI p X tg (.Call (.Name "range" pf) [a, b, c] [] pos) (giR3 gs) where
  ex := ⟨_, pi_range3 hg hm ha.run hs hpl, fun B E σ H r M O k R' R q hR => by
    refine ha.on R q fun ds M1 vs H1 O1 k1 R1 l1 i1 => ?_
    have i2 := isXL_strong i1
    split at k1
    · obtain ⟨u, v, x, rfl, iu, iv, ix⟩ := isXL3 i2
      cases iu; cases iv; cases ix
      obtain ⟨n, k1, k2⟩ := k1
      exact ⟨_, _, _, n, rfl, k1, hR _ M1 H1 O1 _ k2 R1 l1 walk_rngC⟩
    · exact k1.elim⟩
  mono := fun r M Q Q' h q => ha.mono _ _ _ _ (fun d M1 q1 => by
    split at q1
    · obtain ⟨n, q1, q2⟩ := q1
      exact ⟨n, q1, h _ _ q2⟩
    · exact q1.elim) q
/-- list(range(i, j)) -/
def rg2K (x y : D) (k : List D → Prop) : Prop := match x, y with
  | .int i, .int j => RgOk i j ∧ k (rngD i (j - i).toNat)
  | _, _ => False
theorem rg2K_int {i j : Int} {k : List D → Prop} : rg2K (.int i) (.int j) k = (RgOk i j ∧ k (rngD i (j - i).toNat)) := rfl
def gFlR2 (ga gb : GE) : GF := fun r M Q => ga r M fun x M1 => gb r M1 fun y M2 => rg2K x y fun ds => Q (.lst ds) M2
def gFlR1 (ga : GE) : GF := fun r M Q => ga r M fun y M1 => rg2K (.int 0) y fun ds => Q (.lst ds) M1
end
end DL
set_option Elab.async false
set_option linter.all false
set_option maxRecDepth 100000
namespace DL
open PySem PySem.Spec PySem.W PyProof.Rows L2
section
variable {fa : List He.Fa} {fn : List He.DefD} {K : PySem.W.Frag} {mg : Str → Option Value} {P : Program} {w : World} {base : Heap} {k : Nat} {ks : List AK} {fs : FS} {N ps : List Str} {g : GS}
theorem Wor.cls (W : Wor fa fn K mg) (i : Nat) {x : Str} (h : fa[i]? = some (.cls x) := by rfl) : Cls K (He.ga K x) := He.cls_ok (W.c.fact i h)
theorem Wor.noat (W : Wor fa fn K mg) (i : Nat) {x f : Str} (h : fa[i]? = some (.noat x f) := by rfl) : NoAttr K (He.ga K x) f := He.noat_ok (W.c.fact i h)
/-- a class's method: fn's i-th entry, facts i1 (the class), i2 (the method) -/
theorem Wor.meth_ (W : Wor fa fn K mg) (i i1 i2 : Nat) {C m q : Str} {st : Stmt} (S : FnScope N ps (defScope st)) (h : fn[i]? = some ⟨(C, some m), m, q, defArgs st, defBody st, defScope st, [], []⟩ := by rfl)
    (h1 : fa[i1]? = some (.cls C) := by rfl) (h2 : fa[i2]? = some (.meth C m) := by rfl) (hk : (AK.v :: ks).length = ps.length := by rfl)
    (hbd : ∀ (kV doc pm : Value) (an : Option Addr) (cdv ct : Value) (us : List Value), us.length = ps.length → bindArgs (PySem.W.fnOf m q (defArgs st) (defBody st) (defScope st) .none kV doc pm an cdv ct) ⟨us, []⟩ = pure (ps.zip us))
    (hmo : MonoF fs)
    (hbody : ∀ (f : Addr) (cdv : Value) (A : Around) (outer : List Env) (s : Shared) (H : Hp) (E : XK), Room k (A.deeper (envOfC q (defScope st) s.heap.objs.size f cdv)) → A.guards = some [] →
      DSs (cxOf (L2.CX P w) P w K mg base N q (defScope st) f cdv A outer s H E) (defBody st) g)
    (hfs : ∀ ds M Q X, fs ds M Q X → ds.length = (AK.v :: ks).length → g { nx := fun _ M' => Q .non M', rt := Q } (entry N.length (AK.v :: ks) ds X) M) : DefM P w K mg base (k + 1) (He.ga K C) m ks fs := by
  obtain ⟨fd, F⟩ := W.c.def_ i h
  have F1 : Fun K m q st (He.ma K (He.ga K C) m) fd := He5.fun_of F
  exact ⟨⟨_, fd, ps, d_fn F1 S hk (hbody _) hfs, W.cls i1 h1, He.meth_ok (W.c.fact i2 h2), F1.binds hbd⟩, hmo⟩
/-- its making: facts i1 (the class's name), i2 (that it is made so) -/
theorem Wor.init_ (W : Wor fa fn K mg) (i i1 i2 : Nat) {C q : Str} {st : Stmt} {Fk : Prop} (S : FnScope N ps (defScope st)) (h : fn[i]? = some ⟨(C, some "__init__"), "__init__", q, defArgs st, defBody st, defScope st, [], []⟩ := by rfl)
    (h1 : fa[i1]? = some (.glo C) := by rfl) (h2 : fa[i2]? = some (.mkr C) := by rfl) (hk : (AK.v :: ks).length = ps.length := by rfl)
    (hbd : ∀ (kV doc pm : Value) (an : Option Addr) (cdv ct : Value) (us : List Value), us.length = ps.length → bindArgs (PySem.W.fnOf "__init__" q (defArgs st) (defBody st) (defScope st) .none kV doc pm an cdv ct) ⟨us, []⟩ = pure (ps.zip us))
    (hmo : MonoF fs) (hF : Fk)
    (hbody : ∀ (f : Addr) (cdv : Value) (A : Around) (outer : List Env) (s : Shared) (H : Hp) (E : XK), Room k (A.deeper (envOfC q (defScope st) s.heap.objs.size f cdv)) → A.guards = some [] →
      DSs (cxOf (L2.CX P w) P w K mg base N q (defScope st) f cdv A outer s H E) (defBody st) g)
    (hfs : ∀ ds M Q X, fs ds M Q X → ds.length = (AK.v :: ks).length → g { nx := fun _ M' => Q .non M', rt := Q } (entry N.length (AK.v :: ks) ds X) M) : DefI P w K mg base (k + 1) C (He.ga K C) ks Fk fs := by
  obtain ⟨fd, F⟩ := W.c.def_ i h
  have F1 : Fun K "__init__" q st (He.ma K (He.ga K C) "__init__") fd := He5.fun_of F
  exact ⟨⟨_, fd, ps, d_fn F1 S hk (hbody _) hfs, He.mkr_ok (W.c.fact i2 h2), F1.binds hbd⟩, hmo, W.glo i1 h1, hF⟩
theorem tbl_nil {n : Nat} {m : Str} : ∀ q ∈ ([] : List (Addr × FS)), DefM P w K mg base n q.1 m ks q.2 := fun _ h => nomatch h
theorem tbl_cons {n : Nat} {m : Str} {C : Addr} {tbl : List (Addr × FS)} (h : DefM P w K mg base n C m ks fs) (t : ∀ q ∈ tbl, DefM P w K mg base n q.1 m ks q.2) : ∀ q ∈ (C, fs) :: tbl, DefM P w K mg base n q.1 m ks q.2 := fun q hq => by
  rcases List.mem_cons.mp hq with rfl | hq
  · exact h
  · exact t q hq
end
section
variable {X : Cx} {w p w1 w2 : Bool} {tg e a b : Expr} {es : List Expr} {g ga gb : GE} {gs : GA} {B : Addr → Prop} {E : En} {σ : L2.St} {H H' : Hp} {r : DL.Fr} {M M' : Mem} {O O' : Own} {pos pos' : Pos}
/-- least of them, or d -/
def mnD (ns : List Int) (d : Int) : Int := if ns = [] then d else mn ns
def minDK (x y : D) (k : D → Prop) : Prop := match x, y with
  | .lst xs, .int d => ∃ ns, intsOf xs = some ns ∧ k (.int (mnD ns d))
  | .tup xs, .int d => ∃ ns, intsOf xs = some ns ∧ k (.int (mnD ns d))
  | _, _ => False
theorem minDK_lst {ns : List Int} {d : Int} {k : D → Prop} : minDK (.lst (ns.map .int)) (.int d) k = k (.int (mnD ns d)) := by
  show (∃ ms, intsOf (ns.map D.int) = some ms ∧ k (.int (mnD ms d))) = _
  rw [intsOf_map]
  exact propext ⟨fun ⟨ms, e, q⟩ => by cases e; exact q, fun q => ⟨ns, rfl, q⟩⟩
def gMinD (ga gb : GE) : GE := fun r M Q => ga r M fun x M1 => gb r M1 fun y M2 => minDK x y fun d => Q d M2
end
end DL
set_option Elab.async false
set_option linter.all false
set_option maxRecDepth 100000
namespace DL
open PySem PySem.Spec PySem.W PyProof.Rows L2
section
variable {X : Cx} {w p w1 w2 : Bool} {tg e a b : Expr} {es : List Expr} {g ga gb : GE} {gs : GA} {B : Addr → Prop} {E : En} {σ : L2.St} {H H' : Hp} {r : DL.Fr} {M M' : Mem} {O O' : Own} {pos pos' : Pos}
def SameSet (L ns : List Int) : Prop := L.Nodup ∧ ∀ k, k ∈ L ↔ k ∈ ns
theorem SameSet.len {L ns : List Int} (h : SameSet L ns) (hn : ns.Nodup) : L.length = ns.length := ((List.perm_ext_iff_of_nodup h.1 hn).mpr h.2).length_eq
theorem dedup_nodup : ∀ (ns acc : List Int), acc.Nodup → (ns.foldl PyProof.Rows.step_dedup acc).Nodup
  | [], acc, h => h
  | n :: ns, acc, h => by
    refine dedup_nodup ns _ ?_
    unfold PyProof.Rows.step_dedup
    split
    · exact h
    · rename_i hn
      rw [List.nodup_append]
      refine ⟨h, by simp, fun a ha b hb e => hn ?_⟩
      rw [List.mem_singleton.mp hb] at e
      subst e
      exact List.any_eq_true.mpr ⟨_, ha, by simp⟩
theorem firstMet_same (ns : List Int) : SameSet (PyProof.Rows.firstMet (fun i => ns.getD i 0) ns.length) ns := by
  have e : (List.range ns.length).map (fun i => ns.getD i 0) = ns := by
    refine List.ext_getElem (by simp) fun i h1 h2 => ?_
    rw [List.getElem_map, List.getElem_range, List.getD_eq_getElem?_getD, List.getElem?_eq_getElem h2]
    rfl
  refine ⟨dedup_nodup _ _ List.nodup_nil, fun k => ?_⟩
  have h := PyProof.Rows.firstMet_any (fun i => ns.getD i 0) ns.length k
  rw [e] at h
  constructor
  · intro hk
    have h2 : (PyProof.Rows.firstMet (fun i => ns.getD i 0) ns.length).any (· == k) = true := List.any_eq_true.mpr ⟨k, hk, by simp⟩
    rw [h] at h2
    obtain ⟨x, hx, ex⟩ := List.any_eq_true.mp h2
    rw [← eq_of_beq ex]
    exact hx
  · intro hk
    have h2 : ns.any (· == k) = true := List.any_eq_true.mpr ⟨k, hk, by simp⟩
    rw [← h] at h2
    obtain ⟨x, hx, ex⟩ := List.any_eq_true.mp h2
    rw [← eq_of_beq ex]
    exact hx
def tLenSetA (K : PySem.W.Frag) (ta : TE) : TE := fun σ H Q => ta σ H fun x H1 => ∃ (l : Addr) (ns : List Int), x = .ref l ∧ ns.length ≤ 4000 ∧
  ((SqL K H1 l (ns.map V.int) ∧ ∀ L, SameSet L ns → Q (.int (L.length : Nat)) H1) ∨ (SqT K H1 l (ns.map V.int) ∧ ∀ L, SameSet L ns → Q (.int (L.length : Nat)) H1))
theorem pe_lenSetA {ta : TE} {pf p2 q : Pos} (hg : Gl X "len") (hm : X.mg "len" = none) (hg2 : Gl X "set") (hm2 : X.mg "set" = none) (ha : PE X a ta) (hc : X.calm = true)
    (na : starEach [a] X.env = (false, eval a X.env) :: starEach [] X.env := by rfl) : PE X (.Call (.Name "len" pf) [.Call (.Name "set" p2) [a] [] q] [] pos) (tLenSetA X.K ta) := by
  refine ⟨fun pins s σ H Q I h => ?_⟩
  refine Call_ (ld_blt I hg hm boot_len ?_)
  refine PyProof.Rows.callWith_builtin1 (PyProof.Rows.args_cons ?_ rfl) rfl rfl
  refine Call_ (ld_blt I hg2 hm2 boot_set ?_)
  refine PyProof.Rows.callWith_type1 (PyProof.Rows.args_cons (thn (ha.run pins s σ H _ I h) fun v s1 ⟨x, H1, I1, r1, q1⟩ => PyProof.Rows.args_nil ?_) na) na rfl
  obtain ⟨l, ns, rfl, hl, q1⟩ := q1
  cases r1
  rcases q1 with ⟨hq, q1⟩ | ⟨hq, q1⟩
  · obtain ⟨its, r, pl, hz⟩ := I1.list hq
    have hlen : its.toArray.size = ns.length := by rw [List.size_toArray, ← r.length, List.length_map]
    refine call_set_list (I1.ok.hd hc) pl.isList (by simpa using RZ.intsAre_vals r) (by rw [hlen]; unfold scanBound; omega) fun h' tk hS hk => ?_
    refine PyProof.Rows.args_nil ?_
    rw [hlen] at hS
    have hsame := firstMet_same ns
    obtain ⟨o, es, ep, t, ho, hex, hd, _, _, _, hf, hn⟩ := hS
    have hle : (PyProof.Rows.firstMet (fun i => ns.getD i 0) ns.length).length ≤ ns.length := PyProof.Rows.firstMet_length_le _ _
    have I2 : Inv X pins σ H1 { s1 with heap := h', toks := tk } := I1.kept fun b o e => hk b o (Heap.lt_size e) e
    exact call_len_set ho hex hd hf (by rw [hn] <;> omega) ⟨.int (PyProof.Rows.firstMet (fun i => ns.getD i 0) ns.length).length, H1, I2.tok _, ⟨_, by rw [hn]⟩, q1 _ hsame⟩
  · obtain ⟨its, r, pl, hz⟩ := I1.tuple hq
    refine call_set_tupI ns (I1.ok.hd hc) (show s1.heap.IsTuple l its.toArray from pl) (by simpa using L2.intsAre_of r) (by unfold scanBound; omega) fun h' tk c hS hcn hk => ?_
    refine PyProof.Rows.args_nil ?_
    obtain ⟨o, es, ep, t, ho, hex, hd, _, hnd, hmem, hlt, hf, hn, _, _⟩ := hS
    have I2 : Inv X pins σ H1 { s1 with heap := h', toks := tk } := I1.kept hk
    have hle : (es.toList.map keyOf).length = c := by rw [List.length_map, Array.length_toList]; exact hn
    exact call_len_set ho hex hd hf (by rw [hn] <;> omega) ⟨.int (es.toList.map keyOf).length, H1, I2.tok _, ⟨_, by rw [hle, hn]⟩, q1 _ ⟨hnd, fun k => by rw [← hmem k, decide_eq_true_eq]⟩⟩
/-- how many different ones -/
def lenSetK (x : D) (k : D → Prop) : Prop := match x with
  | .lst xs => ∃ ns, intsOf xs = some ns ∧ ns.length ≤ 4000 ∧ ∀ L, SameSet L ns → k (.int (L.length : Nat))
  | .tup xs => ∃ ns, intsOf xs = some ns ∧ ns.length ≤ 4000 ∧ ∀ L, SameSet L ns → k (.int (L.length : Nat))
  | _ => False
theorem lenSetK_lst {ns : List Int} {k : D → Prop} : lenSetK (.lst (ns.map .int)) k = (ns.length ≤ 4000 ∧ ∀ L, SameSet L ns → k (.int (L.length : Nat))) := by
  show (∃ ms, intsOf (ns.map D.int) = some ms ∧ _) = _
  rw [intsOf_map]
  exact propext ⟨fun ⟨ms, e, q⟩ => by cases e; exact q, fun q => ⟨ns, rfl, q⟩⟩
theorem lenSetK_tup {ns : List Int} {k : D → Prop} : lenSetK (.tup (ns.map .int)) k = (ns.length ≤ 4000 ∧ ∀ L, SameSet L ns → k (.int (L.length : Nat))) := by
  show (∃ ms, intsOf (ns.map D.int) = some ms ∧ _) = _
  rw [intsOf_map]
  exact propext ⟨fun ⟨ms, e, q⟩ => by cases e; exact q, fun q => ⟨ns, rfl, q⟩⟩
theorem lenSetK_mono {x : D} {k k' : D → Prop} (h : ∀ d, k d → k' d) (q : lenSetK x k) : lenSetK x k' := by
  unfold lenSetK at q ⊢
  split at q
  · obtain ⟨ns, q1, q2, q3⟩ := q
    exact ⟨ns, q1, q2, fun L hL => h _ (q3 L hL)⟩
  · obtain ⟨ns, q1, q2, q3⟩ := q
    exact ⟨ns, q1, q2, fun L hL => h _ (q3 L hL)⟩
  · exact q.elim
def gLenSet (ga : GE) : GE := fun r M Q => ga r M fun x M1 => lenSetK x fun d => Q d M1
theorem de_lenSet {pf p2 q : Pos} (hc : X.calm = true) (hg : Gl X "len") (hm : X.mg "len" = none) (hg2 : Gl X "set") (hm2 : X.mg "set" = none) (ha : DE w p X a ga)
    (na : starEach [a] X.env = (false, eval a X.env) :: starEach [] X.env := by rfl) : DE true p X (.Call (.Name "len" pf) [.Call (.Name "set" p2) [a] [] q] [] pos) (gLenSet ga) := by
  refine ⟨peI (pe_lenSetA hg hm hg2 hm2 ha.run hc na) fun σ H Q ⟨B, E, r, M, O, R, q⟩ => ?_, fun r M Q Q' h q => ha.mono _ _ _ _ (fun x M1 q1 => lenSetK_mono (fun _ q3 => h _ _ q3) q1) q⟩
  refine ha.on R q fun d M1 v H1 O1 k1 R1 l1 i1 => ?_
  have i2 := i1.one
  unfold lenSetK at k1
  split at k1
  · obtain ⟨ns, en, k2, k3⟩ := k1
    obtain ⟨l, vs, rfl, h1, l3⟩ := i2
    rw [of_intsOf l3 en] at h1
    exact ⟨l, ns, rfl, k2, .inl ⟨SqL.of h1, fun L hL => fin_v R1 (.int _) (LE.go l1 (k3 L hL))⟩⟩
  · obtain ⟨ns, en, k2, k3⟩ := k1
    obtain ⟨l, vs, rfl, h1, l3⟩ := i2
    rw [of_intsOf l3 en] at h1
    exact ⟨l, ns, rfl, k2, .inr ⟨h1.sq, fun L hL => fin_v R1 (.int _) (LE.go l1 (k3 L hL))⟩⟩
  · exact k1.elim
end
end DL
set_option Elab.async false
set_option linter.all false
set_option maxRecDepth 100000
namespace DL
open PySem PySem.Spec PySem.W PyProof.Rows L2
section
variable {X : Cx} {w p w1 w2 : Bool} {tg e a b o iter elt : Expr} {es : List Expr} {g ga gb go ge : GE} {gs : GA} {B : Addr → Prop} {E : En} {σ : L2.St} {H H' : Hp} {r : DL.Fr} {M M' : Mem} {O O' : Own} {pos pos' apos cpos : Pos} {gi : GI} {gt : GG} {gtt : GT} {ifs : List Expr} {scope : Scope} {own : List (Str × Nat)} {ws : List Nat}
/-- a list or a tuple that a slot holds, lent or not -/
def giBA (i : Nat) : GI := fun r M Q => match r.sl[i]? with
  | some (.b _ ds) => Q ds M
  | some (.v (.lst ds)) => Q ds M
  | some (.v (.tup ds)) => Q ds M
  | _ => False
def giMem (go : GE) : GI := fun r M Q => go r M fun d M1 => mlK d M1 fun _ ds => Q ds M1
def ixM (ds : List D) (z : D) (k : Nat → Prop) : Prop := (D.ok (.lst ds) = true ∧ z.ok = true) ∧ match ixD ds z 0 with
  | some j => k j
  | none => False
def gMIdx (go ge : GE) : GE := fun r M Q => go r M fun d M1 => mlK d M1 fun l _ => ge r M1 fun z M2 => mlK (.ref l) M2 fun _ ds => ixM ds z fun j => Q (.int (j : Nat)) M2
end
end DL
set_option Elab.async false
set_option linter.all false
set_option maxRecDepth 100000
namespace DL
open PySem PySem.Spec PySem.W PyProof.Rows L2
/-- a table of the top, by name -/
structure Tb (w : World) (K : PySem.W.Frag) (mg : Str → Option Value) (x : Str) (ks : List Str) : Prop where
  g : mg x = some (.ref (He.ga K x))
  d : He.dicW K (He.ga K x) = some (He.keysIn w.params ks)
theorem Tb.kd {w : World} {K : PySem.W.Frag} {mg : Str → Option Value} {x : Str} {ks : List Str} (T : Tb w K mg x ks) : ∃ es n, KDict K w (He.ga K x) es n := He.dicW_ok T.d
theorem keys_find {P : Params} (z : Str) : ∀ {l : List DictEntry} {ks : List Str}, l.map He.keyOf = He.keysIn P ks → (l.find? (·.key.isStr z)).isSome = decide (z ∈ ks) ∧ l.any (·.refKey) = false
  | [], [], _ => ⟨rfl, rfl⟩
  | [], _ :: _, h => by cases h
  | _ :: _, [], h => by cases h
  | e :: l, k :: ks, h => by
    injection (show He.keyOf e :: l.map He.keyOf = some (k, PyData.keyHash P k) :: He.keysIn P ks from h) with h1 h2
    obtain ⟨i1, i2⟩ := keys_find z h2
    have ek : ∃ t, e.key = .str k t := by
      unfold He.keyOf at h1
      split at h1
      · rename_i x t q
        have h4 := (Prod.mk.inj (Option.some.inj h1)).1
        rw [← h4]
        exact ⟨t, q⟩
      · cases h1
    obtain ⟨t, ek⟩ := ek
    have e1 : e.key.isStr z = decide (z = k) := by
      rw [ek, PySem.W.isStr_of]
      show (k == z) = _
      by_cases q : z = k
      · subst q; simp
      · have : (k == z) = false := by simpa using fun h => q h.symm
        rw [this, decide_eq_false q]
    have e2 : e.refKey = false := by
      unfold DictEntry.refKey
      rw [ek]
    refine ⟨?_, by rw [List.any_cons, e2, i2]; rfl⟩
    rw [List.find?_cons, e1]
    by_cases q : z = k
    · subst q; simp
    · rw [decide_eq_false q]
      show (l.find? _).isSome = _
      rw [i1]
      simp [q]
theorem Tb.at_ {w : World} {K : PySem.W.Frag} {mg : Str → Option Value} {x : Str} {ks : List Str} (T : Tb w K mg x ks) (z : Str) : ∃ r, PySem.W.nsIn K (He.ga K x) z = some r ∧ r.isSome = decide (z ∈ ks) := by
  have h := T.d
  unfold He.dicW at h
  cases q : K.lookup (He.ga K x) with
  | none => rw [q] at h; cases h
  | some o =>
    obtain ⟨oc, od, dt, osl⟩ := o
    rw [q] at h
    cases oc with
    | type c =>
      cases od with
      | none =>
        cases dt with
        | dict es n =>
          have h1 : (match decide (c = "dict") && (osl.isEmpty && !(He.ga K x == sysModules)) with
            | true => some (es.toList.map He.keyOf)
            | false => none) = some (He.keysIn w.params ks) := h
          split at h1
          · obtain ⟨f1, f2⟩ := keys_find z (Option.some.inj h1)
            unfold PySem.W.nsIn
            rw [q]
            dsimp only
            cases fd : es.toList.find? (·.key.isStr z) with
            | none =>
              rw [fd] at f1
              rw [f2]
              exact ⟨none, rfl, f1⟩
            | some e =>
              rw [fd] at f1
              exact ⟨some e.val, rfl, f1⟩
          · cases h1
        | _ => cases h
      | some b => cases dt <;> cases h
    | _ => cases od <;> cases dt <;> cases h
section
variable {X : Cx} {p : Bool} {x : Str} {ks : List Str} {pos : Pos}
theorem dg_tab (T : Tb X.w X.K X.mg x ks) (hg : Gl X x := by rfl) (hd : (x == ("__debug__" : Str)) = false := by decide) : DE true p X (.Name x pos) (gC (.ref (He.ga X.K x))) :=
  de_glob (v := .ref _) hg T.g rfl (fun _ _ => .ref _) hd
def goTab (a : Addr) (ks : List Str) (neg : Bool) : GO := fun d e M Q => match d, e with
  | .str z, .ref b => b = a ∧ Q (.bl (if neg = true then !decide (z ∈ ks) else decide (z ∈ ks))) M
  | _, _ => False
theorem goTab_mono {a : Addr} {neg : Bool} : ∀ d e M Q Q', (∀ d M', Q d M' → Q' d M') → goTab a ks neg d e M Q → goTab a ks neg d e M Q' := fun d e M Q Q' h q => by
  unfold goTab at q ⊢
  split at q
  · exact ⟨q.1, h _ _ q.2⟩
  · exact q.elim
theorem od_notinTab (T : Tb X.w X.K X.mg x ks) : OpD X (compareOp .NotIn) (goTab (He.ga X.K x) ks true) := by
  obtain ⟨es, n, D⟩ := T.kd
  refine ⟨⟨_, op_notIn_kd D, fun B E σ H r M O x1 y d e Q R i1 i2 q => ?_⟩, goTab_mono⟩
  unfold goTab at q
  split at q
  · rename_i z b
    obtain ⟨rfl, q⟩ := q
    obtain ⟨r, e1, e2⟩ := T.at_ z
    refine ⟨z, r, is1_str i1, is1_ref i2, e1, ?_⟩
    rw [e2]
    exact fin_v R (.bl _) q
  · exact q.elim
end
/-- the top's facts with its tables -/
structure WorT (fa : List He.Fa) (fn : List He.DefD) (ts : List He.Tab) (w : World) (K : PySem.W.Frag) (mg : Str → Option Value) : Prop extends Wor fa fn K mg where
  t : He.SaysT fa fn ts w K
theorem WorT.tb {fa : List He.Fa} {fn : List He.DefD} {ts : List He.Tab} {w : World} {K : PySem.W.Frag} {mg : Str → Option Value} (W : WorT fa fn ts w K mg) (i j : Nat) {x : Str} {ks : List Str} (h : fa[i]? = some (.glo x) := by rfl) (h2 : ts[j]? = some ((fun K => He.ga K x), ks) := by rfl) : Tb w K mg x ks := by
  refine ⟨W.glo i h, ?_⟩
  have e : ts.map (fun t => He.dicW K (t.1 K)) = ts.map fun t => some (He.keysIn w.params t.2) := congrArg (fun z : He.AlT => z.2) W.t
  have e2 : (ts.map fun t => He.dicW K (t.1 K))[j]? = (ts.map fun t => some (He.keysIn w.params t.2))[j]? := by rw [e]
  rw [List.getElem?_map, List.getElem?_map, h2] at e2
  exact Option.some.inj e2
end DL
set_option Elab.async false
set_option linter.all false
set_option maxRecDepth 100000
namespace DL
open PySem PySem.Spec PySem.W PyProof.Rows L2
/-- the different ones -/
def uniq : List Int → List Int
  | [] => []
  | x :: xs => if x ∈ xs then uniq xs else x :: uniq xs
theorem uniq_mem (k : Int) : ∀ ns : List Int, k ∈ uniq ns ↔ k ∈ ns
  | [] => Iff.rfl
  | x :: xs => by
    unfold uniq
    split
    · rename_i h
      rw [uniq_mem k xs, List.mem_cons]
      exact ⟨.inr, fun z => z.elim (fun e => by rw [e]; exact h) fun z => z⟩
    · rw [List.mem_cons, List.mem_cons, uniq_mem k xs]
theorem uniq_nodup : ∀ ns : List Int, (uniq ns).Nodup
  | [] => List.nodup_nil
  | x :: xs => by
    unfold uniq
    split
    · exact uniq_nodup xs
    · rename_i h
      exact List.nodup_cons.mpr ⟨fun z => h ((uniq_mem x xs).mp z), uniq_nodup xs⟩
theorem uniq_len : ∀ ns : List Int, (uniq ns).length ≤ ns.length ∧ ((uniq ns).length = ns.length → ns.Nodup)
  | [] => ⟨Nat.le_refl _, fun _ => List.nodup_nil⟩
  | x :: xs => by
    obtain ⟨h1, h2⟩ := uniq_len xs
    unfold uniq
    split
    · rw [List.length_cons]
      exact ⟨by omega, fun e => by omega⟩
    · rename_i h
      rw [List.length_cons, List.length_cons]
      exact ⟨by omega, fun e => List.nodup_cons.mpr ⟨h, h2 (by omega)⟩⟩
theorem SameSet.iff {L ns : List Int} (h : SameSet L ns) : L.length = ns.length ↔ ns.Nodup := by
  have e : L.length = (uniq ns).length := ((List.perm_ext_iff_of_nodup h.1 (uniq_nodup ns)).mpr fun k => by rw [h.2, uniq_mem]).length_eq
  exact ⟨fun q => (uniq_len ns).2 (by omega), fun q => h.len q⟩
end DL
set_option Elab.async false
set_option linter.all false
set_option maxRecDepth 100000
namespace DL
open PySem PySem.Spec PySem.W PyProof.Rows L2
section
variable {X : Cx} {w p : Bool} {e : Expr} {g ga : GE} {pos : Pos}
/-- sorted(xs) -/
def sortK (d : D) (k : List D → Prop) : Prop := match d with
  | .lst xs => ∃ ns, intsOf xs = some ns ∧ ∀ ns' : List Int, ns'.Perm ns → ns'.Pairwise (· ≤ ·) → k (ns'.map .int)
  | .tup xs => ∃ ns, intsOf xs = some ns ∧ ∀ ns' : List Int, ns'.Perm ns → ns'.Pairwise (· ≤ ·) → k (ns'.map .int)
  | _ => False
theorem sortK_lst {ns : List Int} {k : List D → Prop} : sortK (.lst (ns.map .int)) k = ∀ ns' : List Int, ns'.Perm ns → ns'.Pairwise (· ≤ ·) → k (ns'.map .int) := by
  show (∃ ms, intsOf (ns.map D.int) = some ms ∧ _) = _
  rw [intsOf_map]
  exact propext ⟨fun ⟨ms, e, q⟩ => by cases e; exact q, fun q => ⟨ns, rfl, q⟩⟩
theorem sortK_tup {ns : List Int} {k : List D → Prop} : sortK (.tup (ns.map .int)) k = ∀ ns' : List Int, ns'.Perm ns → ns'.Pairwise (· ≤ ·) → k (ns'.map .int) := by
  show (∃ ms, intsOf (ns.map D.int) = some ms ∧ _) = _
  rw [intsOf_map]
  exact propext ⟨fun ⟨ms, e, q⟩ => by cases e; exact q, fun q => ⟨ns, rfl, q⟩⟩
def gFsort (ga : GE) : GF := fun r M Q => ga r M fun d M1 => sortK d fun ds => Q (.lst ds) M1
end
end DL
set_option Elab.async false
set_option linter.all false
set_option maxRecDepth 100000
namespace DL
open PySem PySem.Spec PySem.W PyProof.Rows L2
section
variable {X : Cx} {p : Bool}
/-- a, b, c = x, y, z -/
def gPar3 (i j l : Nat) (gs : GA) : GS := fun D r M => gs r M fun ds M1 => match ds with
  | [d, e, u] => D.nx (((r.set i (.v d)).set j (.v e)).set l (.v u)) M1
  | _ => False
end
end DL
set_option Elab.async false
set_option linter.all false
set_option maxRecDepth 100000
namespace DL
open PySem PySem.Spec PySem.W PyProof.Rows L2
mutual
/-- whether a value of the written part bears d -/
def isB (K : PySem.W.Frag) : D → Value → Bool
  | .non, u => (match u with
    | .none => true
    | _ => false)
  | .bl b, u => (match u with
    | .bool c => decide (c = b)
    | _ => false)
  | .int i, u => (match u with
    | .int j _ => decide (j = i)
    | _ => false)
  | .str x, u => (match u with
    | .str y _ => decide (y = x)
    | _ => false)
  | .ref a, u => (match u with
    | .ref b => decide (b = a)
    | _ => false)
  | .tup ds, u => (match u with
    | .ref a => (match K.lookup a with
      | some ⟨.type c, none, .seq its _, _⟩ => decide (c = "tuple") && (decide (its.size ≤ 1000) && isBL K ds its.toList)
      | _ => false)
    | _ => false)
  | _, _ => false
def isBL (K : PySem.W.Frag) : List D → List Value → Bool
  | [], us => us.isEmpty
  | d :: ds, us => (match us with
    | u :: us => isB K d u && isBL K ds us
    | [] => false)
end
mutual
theorem isB_ok {K : PySem.W.Frag} : ∀ (d : D) (u : Value), isB K d u = true → ∃ v, RelV v u ∧ ∀ A H, Is K A H v d
  | .non, u, h => by
    unfold isB at h
    split at h
    · exact ⟨.non, rfl, fun _ _ => .non⟩
    · cases h
  | .bl b, u, h => by
    unfold isB at h
    split at h
    · have e := of_decide_eq_true h
      subst e
      exact ⟨.bl _, rfl, fun _ _ => .bl _⟩
    · cases h
  | .int i, u, h => by
    unfold isB at h
    split at h
    · have e := of_decide_eq_true h
      subst e
      exact ⟨.int _, ⟨_, rfl⟩, fun _ _ => .int _⟩
    · cases h
  | .str i, u, h => by
    unfold isB at h
    split at h
    · have e := of_decide_eq_true h
      subst e
      exact ⟨.str _, ⟨_, rfl⟩, fun _ _ => .str _⟩
    · cases h
  | .ref i, u, h => by
    unfold isB at h
    split at h
    · have e := of_decide_eq_true h
      subst e
      exact ⟨.ref _, rfl, fun _ _ => .ref _⟩
    · cases h
  | .tup ds, u, h => by
    unfold isB at h
    split at h
    · rename_i a
      split at h
      · rename_i c its n sl q
        obtain ⟨h1, h2⟩ := He.ba h
        obtain ⟨h2, h3⟩ := He.ba h2
        have e := of_decide_eq_true h1
        subst e
        obtain ⟨vs, r, l⟩ := isBL_ok ds its.toList h3
        exact ⟨.ref a, rfl, fun A H => .tup (.inr ⟨_, its, n, q, rfl, rfl, rfl, Nat.le_trans (of_decide_eq_true h2) (by rw [sizeLine_eq]; decide), r⟩) (l A H)⟩
      · cases h
    · cases h
  | .ty n, u, h => by cases h
  | .lst n, u, h => by cases h
  | .dic n, u, h => by cases h
theorem isBL_ok {K : PySem.W.Frag} : ∀ (ds : List D) (us : List Value), isBL K ds us = true → ∃ vs, Vals vs us ∧ ∀ A H, IsL K A H vs ds
  | [], us, h => by
    unfold isBL at h
    rw [List.isEmpty_iff] at h
    subst h
    exact ⟨[], .nil, fun _ _ => .nil⟩
  | d :: ds, us, h => by
    unfold isBL at h
    split at h
    · rename_i u us
      obtain ⟨h1, h2⟩ := He.ba h
      obtain ⟨v, r, l⟩ := isB_ok d u h1
      obtain ⟨vs, rs, ls⟩ := isBL_ok ds us h2
      exact ⟨v :: vs, .cons r rs, fun A H => .cons (l A H) (ls A H)⟩
    · cases h
end
/-- what is asked of the top besides -/
inductive Ck where
  | con (x : Str) (d : D)
  | tab (x : Str) (kvs : PySem.W.Frag → List (Str × D))
  /-- an own exception's class, as isinstance asks it -/
  | exq (x : Str)
  /-- isinstance of an instance of the class x -/
  | isq (x : Str) (c : PySem.W.Frag → D) (b : Bool)
  /-- defs that make lambdas: their tables of code objects -/
  | cods (xs : List Str)
def clsV : D → Value
  | .ref a => .ref a
  | .ty z => .type z
  | _ => .none
def kitD (K : PySem.W.Frag) (t : Value) : D → Option Bool
  | .tup ds => PySem.W.kitAny K t (ds.map clsV)
  | c => PySem.W.kitOne K t (clsV c)
def excB (K : PySem.W.Frag) (D : Addr) : Bool :=
  decide (PySem.W.findIn K (.ref D) "__getattribute__" = some (some (.builtin "BaseException.__getattribute__"))) && (decide (PySem.W.findIn K (.ref D) "__getattr__" = some none) && (decide (PySem.W.subIn K (.ref D) (.type "BaseException") = some true) && (PySem.W.hasDictIn K D &&
    (decide (PySem.W.findIn K (.ref D) "__class__" = some (some (.builtin "object.__class__"))) && (decide (PySem.W.specialIn K (.builtin "object.__class__") "__get__" = some (some (.builtin "getset_descriptor.__get__"))) && (decide (PySem.W.takesIn K (.builtin "object.__class__") = some true) && decide (PySem.W.mroIn K D (.type "object") = some true)))))))
/-- a def's code object, its table of code objects -/
def tC (K : PySem.W.Frag) (x : Str) : Addr := ((PySem.W.tabIn K x).map (·.1)).getD 0
def tP (K : PySem.W.Frag) (x : Str) : Addr := ((PySem.W.tabIn K x).map (·.2)).getD 0
def Ck.ok (K : PySem.W.Frag) : Ck → Bool
  | .con x d => (match PySem.W.nsIn K mainGlobals x with
    | some (some u) => isB K d u
    | _ => false)
  | .tab x kvs => (kvs K).all fun q => match PySem.W.nsIn K (He.ga K x) q.1 with
    | some (some u) => isB K q.2 u
    | _ => false
  | .exq x => excB K (He.ga K x)
  | .isq x c b => decide (kitD K (.ref (He.ga K x)) (c K) = some b)
  | .cods xs => xs.all (fun x => (PySem.W.tabIn K x).isSome && (K.lookup (tP K x)).isNone) && decide (xs.map (tP K)).Nodup
structure WorC (fa : List He.Fa) (fn : List He.DefD) (ts : List He.Tab) (cs : List Ck) (w : World) (K : PySem.W.Frag) (mg : Str → Option Value) : Prop extends WorT fa fn ts w K mg where
  x : cs.all (Ck.ok K) = true
section
variable {fa : List He.Fa} {fn : List He.DefD} {ts : List He.Tab} {cs : List Ck} {w : World} {K : PySem.W.Frag} {mg : Str → Option Value}
/-- a constant of the top -/
def Con (K : PySem.W.Frag) (mg : Str → Option Value) (x : Str) (d : D) : Prop := ∃ u v, mg x = some u ∧ RelV v u ∧ ∀ A H, Is K A H v d
theorem WorC.ck (W : WorC fa fn ts cs w K mg) (i : Nat) {c : Ck} (h : cs[i]? = some c) : c.ok K = true := List.all_eq_true.mp W.x c (List.mem_of_getElem? h)
theorem WorC.con (W : WorC fa fn ts cs w K mg) (i : Nat) {x : Str} {d : D} (h : cs[i]? = some (.con x d) := by rfl) : Con K mg x d := by
  have c : (match PySem.W.nsIn K mainGlobals x with
    | some (some u) => isB K d u
    | _ => false) = true := W.ck i h
  obtain ⟨hp, X, G⟩ := W.ex
  split at c
  · rename_i u e
    obtain ⟨v, r, l⟩ := isB_ok d u c
    have e2 : mg x = some u := (PySem.W.mg_of X G e)
    exact ⟨u, v, e2, r, l⟩
  · cases c
end
end DL
set_option Elab.async false
set_option linter.all false
set_option maxRecDepth 100000
namespace DL
open PySem PySem.Spec PySem.W PyProof.Rows L2
section
variable {X : Cx} {p w : Bool} {a b : Expr} {ga gb : GE} {pos : Pos}
def goMulL : GO := fun d e M Q => match d, e with
  | .lst xs, .int k => (-1000000 ≤ k ∧ k ≤ 1000000 ∧ xs.length * k.toNat ≤ 1000000) ∧ Q (.lst (repD k xs)) M
  | _, _ => False
theorem goMulL_lst {xs : List D} {k : Int} {M : Mem} {Q : D → Mem → Prop} : goMulL (.lst xs) (.int k) M Q = ((-1000000 ≤ k ∧ k ≤ 1000000 ∧ xs.length * k.toNat ≤ 1000000) ∧ Q (.lst (repD k xs)) M) := rfl
end
end DL
set_option Elab.async false
set_option linter.all false
set_option maxRecDepth 100000
namespace DL
open PySem PySem.Spec PySem.W PyProof.Rows L2
def gExt (i : Nat) (ge : GE) : GS := fun D r M => match r.sl[i]? with
  | some (.o (.lst ds)) => ge r M fun d M1 => match d with
    | .lst es => ds.length + es.length ≤ sizeLine ∧ D.nx (r.set i (.o (.lst (ds ++ es)))) M1
    | _ => False
  | _ => False
def loopDM (gt : GG) (gb : GS) (l : Addr) (all : List D) : List D → DEnds → Fr → Mem → Prop
  | [], D, r, M => M l = some (.om (.lst all)) ∧ D.nx r M
  | d :: ds, D, r, M => M l = some (.om (.lst all)) ∧ gt d r M fun r' M' => gb { D with nx := loopDM gt gb l all ds D, ct := loopDM gt gb l all ds D, bk := D.nx } r' M'
def gForM (go : GE) (gt : GG) (gb : GS) : GS := fun D r M => go r M fun d M1 => mlK d M1 fun l ds => loopDM gt gb l ds ds D r M1
end DL
set_option Elab.async false
set_option linter.all false
set_option maxRecDepth 100000
namespace DL
open PySem PySem.Spec PySem.W PyProof.Rows L2
def lcDM (l : Addr) (all : List D) (gt : GG) (gtt : GT) (ge : GE) (r : DL.Fr) : List D → List D → Mem → (List D → Mem → Prop) → Prop
  | [], acc, M, Q => M l = some (.om (.lst all)) ∧ Q acc M
  | d :: ds, acc, M, Q => M l = some (.om (.lst all)) ∧ gt d r M fun r1 M1 => gtt r1 M1 fun b M2 => if b = true then ge r1 M2 fun x M3 => acc.length < sizeLine ∧ lcDM l all gt gtt ge r ds (acc ++ [x]) M3 Q else lcDM l all gt gtt ge r ds acc M2 Q
def gLcM (go : GE) (gt : GG) (gtt : GT) (ge : GE) (vs : List Nat) : GF := fun r M Q => noOwn r vs = true ∧ go r M fun d M1 => mlK d M1 fun l ds => lcDM l ds gt gtt ge (wipeF r vs) ds [] M1 fun acc M2 => Q (.lst acc) M2
end DL
set_option Elab.async false
set_option linter.all false
set_option maxRecDepth 100000
set_option maxHeartbeats 2000000
namespace L2
open PySem PySem.Spec PyProof.Rows
/-- a caught exception of the class cls, at a -/
def ExC (cls : Value) (a : Addr) : HO := .ext fun h => ∃ (oe : Obj) (vs : Array Value), h.get? a = some oe ∧ Zc cls none oe ∧ oe.data = .fields vs
theorem exC_ok {P : Program} {w : World} {H : Hp} {h : Heap} {a : Addr} {cls : Value} {oe : Obj} {vs : Array Value} (e : h.get? a = some oe) (z : Zc cls none oe) (d : oe.data = .fields vs) : ObjOk P w H h a (ExC cls a) :=
  ⟨⟨oe, vs, e, z, d⟩, ⟨oe, e⟩, fun _ _ ⟨o, v, q, r⟩ k => ⟨o, v, k o q, r⟩⟩
section
variable {X : Cx} {pins : List (Addr × Obj)} {σ : St} {H : Hp} {s : Shared}
/-- an object that nobody knew at the entry is tracked from here on -/
theorem Inv.track {a : Addr} {u : HO} {oe : Obj} {vs : Array Value} (I : Inv X pins σ H s) (he : s.heap.get? a = some oe) (hd : oe.data = .fields vs) (ha : H a = none) (nL : a ≠ X.env.locals) (n0 : X.s_0.heap.get? a = none)
    (np : ∀ p ∈ X.pn ++ pins, p.1 ≠ a) (new : ObjOk X.prog X.w (upd H a u) s.heap a u) : Inv X pins σ (upd H a u) s where
  ok := I.ok
  os := I.os
  bare := I.bare
  base := {
    keep := I.base.keep
    slot := I.base.slot
    free := fun b o e n x => by
      rw [upd_ne fun z => by rw [z, n0] at e; cases e]
      exact I.base.free b o e n x
    there := I.base.there
    tups := fun b xs q => by
      have q2 := I.base.tups b xs q
      rw [upd_ne (ne_of_none q2 ha)]; exact q2
    frzs := fun b o w q => by
      have q2 := I.base.frzs b o w q
      rw [upd_ne (ne_of_none q2 ha)]; exact q2
    tbls := fun b ps q => by
      obtain ⟨more, q2⟩ := I.base.tbls b ps q
      exact ⟨more, by rw [upd_ne (ne_of_none q2 ha)]; exact q2⟩ }
  loc := I.loc
  cell := I.cell
  free := by rw [upd_ne (Ne.symm nL)]; exact I.free
  freeC := fun x c e => by
    obtain ⟨v, o, ho, hc⟩ := I.cell x c e
    rw [upd_ne fun z => by rw [z, he] at ho; cases ho; rw [hd] at hc; cases hc]
    exact I.freeC x c e
  pin := fun p hp => by
    obtain ⟨h1, h2, h3⟩ := I.pin p hp
    exact ⟨h1, by rw [upd_ne (np p hp)]; exact h2, h3⟩
  hok := I.hok.laidN (fun _ _ q => q) ha new
  len := I.len
end
/-- as wAs, the exception kept -/
def wExc (K : PySem.W.Frag) (c : Value) (i : Nat) (ts : Addr → Value → Option Addr → TS) (Wout : WX) (D : Ends) : WX := fun cls d σ H =>
  ∃ b, PySem.W.exmOne K cls c = some b ∧ (b = true → d = none ∧ ∀ a, H a = none → ts a cls d { nx := fun σ' H' => D.nx (σ'.set i none) (upd H' a (ExC cls a)), rt := D.rt, bk := fun σ' H' => D.bk (σ'.set i none) (upd H' a (ExC cls a)), ct := fun σ' H' => D.ct (σ'.set i none) (upd H' a (ExC cls a)) } (σ.set i (some (.ref a))) H) ∧
    (b = false → Wout cls d σ H)
section
variable {X : Cx} {x n : Str} {c : Value} {i : Nat} {body suite : List Stmt} {b₀ : Stmt} {np pos pos' : Pos} {tb : WX → TS} {ts : Addr → Value → Option Addr → TS} {Wout : WX}
theorem ps_try_exc (hex : X.ex = []) (hs : X.stack = X.env :: X.outer) (hf : X.env.frame = some X.env.locals) (hN : X.N.Nodup) (hi : X.N[i]? = some n) (hln : X.env.kindOf n = some .local) (hc : Names X x c) (tk : Takes X Wout)
    (hb : ∀ (W : WX) (pn : List (Addr × Obj)) (xe : Value → Shared → Prop), Takes (X.tr pn xe) W → PassesOwn (model X.prog X.w) X.A X.env xe → PSs (X.tr pn xe) body (tb W))
    (hsu : ∀ (a : Addr) (oe : Obj) (cls : Value) (d : Option Addr) (pn : List (Addr × Obj)), Zc cls d oe → (∃ vs, oe.data = .fields vs) → PSs (X.suite a ((a, oe) :: pn)) (b₀ :: suite) (ts a cls d)) :
    PS X (.Try body [.ExceptHandler (some (.Name x np)) (some n) (b₀ :: suite) pos'] [] [] pos) (fun D σ H => tb (wExc X.K c i ts Wout D) D σ H) := by
  refine ⟨fun pins s σ H D I h => ?_⟩
  have ok := I.ok
  have hfr : X.A.frames = some (X.env :: X.outer) := by rw [ok.frames, hs]
  have hloc : Loc X.env.scope n := .inl hln
  refine wpAny_Try_except ?_
  refine wpAny_mono ((hb (wExc X.K c i ts Wout D) (X.pn ++ pins) (fun e s₁ => wpAny (model X.prog X.w) X.A (noteFrame e X.env) (fun _ s₂ => wpAny (model X.prog X.w) X.A (setFlight e none) (fun _ s₃ =>
    wpAny (model X.prog X.w) X.A (handleBy e X.env [.ExceptHandler (some (.Name x np)) (some n) (b₀ :: suite) pos']) (SP X pins D) X.xe s₃) X.xe s₂) X.xe s₁) (fun u s' xx => ?_) PassesOwn.looking).run [] s σ H D (I.toTry _) h) (fun f s1 hsp => ?_) (fun e s1 he => he)
  · -- the catch
    obtain ⟨a, B, sI, pins', σ', H', cls, d, rfl, J', nb, up, sky, na, os, ag, b, hb1, hyes, hno⟩ := xx
    have J : Inv X pins σ' H' sI := J'.ofTry ok
    have sky' : Sky B (X.env :: X.outer) a (Zc cls d) X.env.locals s'.heap := by rw [← hs]; exact sky
    show wpAny (model X.prog X.w) X.A (noteFrame (.ref a) X.env) _ _ _
    refine Sky.land Zc.steady hfr hf sky' fun h3 fl3 up3 => ?_
    have J3 : Inv X pins σ' H' { s' with heap := h3 } := J.landed nb fl3.1 (up.trans up3) os ag
    obtain ⟨oe3, vs3, he3, hz3, hd3⟩ := fl3.there
    have notFr : ∀ {h : Heap} {o : Obj} {vs : Array Value}, h.FunFrames B (X.env :: X.outer) → h.get? a = some o → o.data = .fields vs → a ∉ frs (X.env :: X.outer) := fun {h o vs} ff e dd hm => by
      obtain ⟨_, o', e', hnf⟩ := ff.mem hm
      rw [e] at e'; cases e'
      exact hnf _ dd
    have nfr := notFr fl3.2.2.1 he3 hd3
    have nL : a ≠ X.env.locals := fun z => nfr (List.mem_filterMap.mpr ⟨X.env, List.mem_cons_self, by rw [hf, z]⟩)
    have nF : a ∉ X.fs := fun hm => by
      obtain ⟨e, he, q⟩ := List.mem_filterMap.mp hm
      exact nfr (List.mem_filterMap.mpr ⟨e, List.mem_cons_of_mem _ he, q⟩)
    have S3 := J3.suite he3 hd3 na nL nF
    refine wpAny_handleBy_cons (codeAny_handlers_test ?_) (by intro q; cases q)
    have LT : PySem.W.Looks (model X.prog X.w) h3 (typeOf (.ref a)) cls := fun A Q E s k q => wpAny_typeOf_ref (k _ _ he3) (by rw [hz3.1]; exact q)
    have LM := PySem.W.exm_one (M := model X.prog X.w) (J3.kIn) LT hb1
    have test : ∀ {Q : Value → Shared → Prop} {E : Value → Shared → Prop}, Q c { s' with heap := h3 } → wpAny (model X.prog X.w) (X.A.mark (some (.ref a))) (eval (.Name x np) X.env) Q E { s' with heap := h3 } := fun {Q E} q => by
      obtain ⟨hg, hdbg, hm | ⟨hm, hv, hnn⟩⟩ := hc
      · exact ld_glob (X := X.suite a ((a, oe3) :: (X.pn ++ pins))) S3 hg hm q hdbg
      · exact ld_blt (X := X.suite a ((a, oe3) :: (X.pn ++ pins))) S3 hg hm hv q hnn hdbg
    refine test (LM.here ?_)
    cases b with
    | true =>
      obtain ⟨hd0, hyes⟩ := hyes rfl
      subst hd0
      refine codeAny_handlers_suite_as ?_
      refine HandSPX.lands_againZ fl3 fun h4 fl4 up4 => ?_
      have J4 : Inv X pins σ' H' { s' with heap := h4 } := J.landed nb fl4.1 ((up.trans up3).trans up4) os ag
      obtain ⟨oe4, vs4, he4, hz4, hd4⟩ := fl4.there
      have S4 := J4.suite he4 hd4 na nL nF
      refine store_ok (X := X.suite a ((a, oe4) :: (X.pn ++ pins))) (v := .ref a) S4 hN hi hloc rfl (fun s5 S5 => ?_) (.inr hln)
      refine wpAny_mono ((hsu a oe4 cls none (X.pn ++ pins) hz4 ⟨_, hd4⟩).run [] s5 _ H' _ S5 (hyes a na)) (fun f s6 hsp => ?_) (fun _ _ z => False.elim z)
      have npI : sI.heap.get? a = none := by
        cases eI : sI.heap.get? a with
        | none => rfl
        | some oI =>
          have := nb a oI eI (by rw [hs]; exact nfr)
          rw [fl3.2.1] at this
          cases this
      have n0 : X.s_0.heap.get? a = none := by
        cases e0 : X.s_0.heap.get? a with
        | none => rfl
        | some o0 =>
          obtain ⟨o1, e1⟩ := J.base.there a o0 e0 (by rw [hex]; exact List.not_mem_nil)
          rw [npI] at e1
          cases e1
      have np : ∀ p ∈ X.pn ++ pins, p.1 ≠ a := fun p hp z => by
        have := (J.pin p hp).1
        rw [z, npI] at this
        cases this
      have endT : ∀ {σ6 : St} {H6 : Hp} {Q : Shared → Prop}, Inv (X.suite a ((a, oe4) :: (X.pn ++ pins))) [] σ6 H6 s6 → (∀ s7, Inv X pins (σ6.set i none) (upd H6 a (ExC cls a)) s7 → Q s7) →
          wpAny (model X.prog X.w) X.A (do bindName X.env n .none; unbindBehindTheSuite X.env n pos') (fun _ s7 => Q s7) X.xe s6 := fun {σ6 H6 Q} S6 hq => by
        obtain ⟨p1, p2, p3, p4, p5⟩ := S6.pin (a, oe4) (by rw [List.append_nil]; exact List.mem_cons_self ..)
        exact gone_ok ((S6.unsuite ok).track p1 hd4 p2 p3 n0 np (exC_ok p1 hz4 hd4)) hN hi hln hq
      have end_ : ∀ {σ6 : St} {H6 : Hp} {Q : Shared → Prop}, Inv (X.suite a ((a, oe4) :: (X.pn ++ pins))) [] σ6 H6 s6 → (∀ s7, Inv X pins (σ6.set i none) H6 s7 → Q s7) →
          wpAny (model X.prog X.w) X.A (do bindName X.env n .none; unbindBehindTheSuite X.env n pos') (fun _ s7 => Q s7) X.xe s6 := fun {σ6 H6 Q} S6 hq => gone_ok (S6.unsuite ok) hN hi hln hq
      cases f with
      | next =>
        obtain ⟨σ6, H6, S6, q6⟩ := hsp
        exact endT S6 fun s7 J7 => ⟨_, _, J7, q6⟩
      | brk =>
        obtain ⟨σ6, H6, S6, q6⟩ := hsp
        exact endT S6 fun s7 J7 => ⟨_, _, J7, q6⟩
      | cont =>
        obtain ⟨σ6, H6, S6, q6⟩ := hsp
        exact endT S6 fun s7 J7 => ⟨_, _, J7, q6⟩
      | ret u =>
        obtain ⟨v6, σ6, H6, S6, r6, q6⟩ := hsp
        exact end_ S6 fun s7 J7 => ⟨_, _, _, J7, r6, q6⟩
    | false =>
      show wpAny _ X.A (handleBy (.ref a) X.env []) _ _ _
      refine wpAny_handleBy_nil ?_
      obtain ⟨k1, k2, k3, oe, vs, T, oT, ts', he, hz, hd, h1, hr⟩ := id fl3
      unfold PySem.passOn
      refine wpAny_bind (wpAny_field he hd h1 ?_)
      rw [if_neg (show ¬ ((Value.ref T == Value.none) = true) from by simp)]
      have fin : wpAny (model X.prog X.w) X.A (setFlight (.ref a) X.env.frame) (fun _ s4 => wpAny (model X.prog X.w) X.A (throw (.ref a) : Sem Flow) (SP X pins D) X.xe s4) X.xe { s' with heap := h3 } := by
        rw [hf]
        refine HandSPX.setFlight_upZ fl3 fun h4 hh4 up4 => wpAny_throw (tk _ _ ?_)
        exact ⟨a, B, sI, pins, σ', H', cls, d, rfl, J, nb, (up.trans up3).trans up4, .inr (.inr (by rw [hs]; exact hh4)), na, os, ag, hno rfl⟩
      first
        | exact wpAny_bind (wpAny_pure (wpAny_bind fin))
        | exact wpAny_bind fin
  · cases f with
    | next =>
      obtain ⟨σ', H', J', q⟩ := hsp
      exact wpAny_execs_nil ⟨σ', H', J'.ofTry ok, q⟩
    | brk =>
      obtain ⟨σ', H', J', q⟩ := hsp
      exact ⟨σ', H', J'.ofTry ok, q⟩
    | cont =>
      obtain ⟨σ', H', J', q⟩ := hsp
      exact ⟨σ', H', J'.ofTry ok, q⟩
    | ret u =>
      obtain ⟨v, σ', H', J', r, q⟩ := hsp
      exact ⟨v, σ', H', J'.ofTry ok, r, q⟩
end
end L2
set_option Elab.async false
set_option linter.all false
set_option maxRecDepth 100000
set_option maxHeartbeats 2000000
namespace DL
open PySem PySem.Spec PySem.W PyProof.Rows L2
section
variable {X : Cx} {B : Addr → Prop} {E : En} {σ : L2.St} {H H' : Hp} {r : DL.Fr} {M M' : Mem} {O O' : Own} {p w : Bool} {ks : List AK}
def nox : Addr → Mem → Prop := fun _ _ => False
def En.mute (E : En) : En := { E with X := nox, W := fun _ _ => False }
def Fr.mute (r : DL.Fr) : DL.Fr := { r with ex := nox }
theorem takes_false : Takes X (fun cls d _ H => xk (fun _ _ => False) cls d H) := fun u s' ⟨_, _, _, _, _, _, _, _, _, _, _, _, _, _, _, _, ⟨_, _, _, z⟩⟩ => z.elim
theorem Rep.mute (R : Rep X B E σ H r M O) (pn : List (Addr × Obj)) (xe : Value → Shared → Prop) : Rep (X.tr pn xe) B E.mute σ H (Fr.mute r) M O :=
  ⟨R.m, R.len, R.sl, R.ent, R.sub, fun _ _ _ _ _ _ z => z.elim, takes_false, rfl⟩
theorem Rep.unmute (R : Rep X B E σ H r M O) {pn : List (Addr × Obj)} {xe : Value → Shared → Prop} (R' : Rep (X.tr pn xe) B E.mute σ H' (Fr.mute r) M' O') : Rep X B E σ H' r M' O' :=
  ⟨R'.m, R'.len, R'.sl, R'.ent, R'.sub, R.exc, R.lk, R.xe⟩
abbrev GX := DL.Fr → Mem → (D → Mem → Prop) → (Addr → Mem → Prop) → Prop
/-- an expression that may raise: what is wanted of that is told apart -/
structure TrX (X : Cx) (e : Expr) (gx : GX) : Prop where
  run : ∀ (pn : List (Addr × Obj)) (xe : Value → Shared → Prop) (pins : List (Addr × Obj)) (s : Shared) (σ : L2.St) (H : Hp) (Q : VK) (Wc : Addr → Hp → Prop), Inv (X.tr pn xe) pins σ H s →
    (∀ (pins1 : List (Addr × Obj)) (H1 : Hp) (s1 : Shared) (u : Value) (s' : Shared), Inv (X.tr pn xe) pins1 σ H1 s1 → L2.CX X.prog X.w X.stack H1 s1 (xk Wc) u s' → xe u s') →
    ∀ B E r M O (Xc : Addr → Mem → Prop), Rep (X.tr pn xe) B E σ H r M O → gx r M (fun d M' => ∀ v H' O', Rep (X.tr pn xe) B E σ H' r M' O' → Is X.K (Av B M' O') H' v d → Q v H') Xc →
    (∀ C M' H' O', Rep (X.tr pn xe) B E σ H' r M' O' → Xc C M' → Wc C H') → wpAny (model X.prog X.w) X.A (eval e X.env) (EP (X.tr pn xe) pins σ Q) xe s
  mono : ∀ r M Q Q' Xc Xc', (∀ d M', Q d M' → Q' d M') → (∀ C M', Xc C M' → Xc' C M') → gx r M Q Xc → gx r M Q' Xc'
section
variable {e : Expr} {es : List Expr} {gs : GA} {n : Nat} {f : Addr} {fd : FuncData} {ps : List Str} {fs : FS} {x : Str} {pf pos : Pos}
def gxP (fs : FS) (gs : GA) : GX := fun r M Q Xc => gs r M fun ds M1 => fs ds M0 (fun d _ => Q d M1) fun C _ => Xc C M1
def gxM (fs : FS) (gs : GA) : GX := fun r M Q Xc => gs r M fun ds M1 => fs ds M1 Q Xc
end
end
end DL
set_option Elab.async false
set_option linter.all false
set_option maxRecDepth 100000
set_option maxHeartbeats 2000000
namespace DL
open PySem PySem.Spec PySem.W PyProof.Rows L2
section
variable {X : Cx} {B : Addr → Prop} {E : En} {σ : L2.St} {H H' : Hp} {r : DL.Fr} {M M' : Mem} {O O' : Own}
theorem Rep.setn (R : Rep X B E σ H r M O) (i : Nat) : Rep X B E (σ.set i none) H (r.set i .n) M O where
  m := R.m
  len := by
    show (σ.set i none).length = (r.sl.set i .n).length
    rw [List.length_set, List.length_set]; exact R.len
  sl := fun j s e => by
    have e : (r.sl.set i .n)[j]? = some s := e
    by_cases hj : i = j
    · subst hj
      have hi : i < r.sl.length := by
        obtain ⟨h1, _⟩ := List.getElem?_eq_some_iff.mp e
        simpa using h1
      rw [List.getElem?_set_self hi] at e
      cases e
      trivial
    · rw [List.getElem?_set_ne hj] at e
      rw [List.getElem?_set_ne hj]
      exact R.sl j s e
  ent := R.ent
  sub := R.sub
  exc := R.exc
  lk := R.lk
  xe := R.xe
theorem Rep.keep (R : Rep X B E σ H r M O) {a : Addr} {u : HO} (n : H a = none) : Rep X B E σ (upd H a u) r (mup M a (.ho u)) O := (New.of R n).toMem (m := .ho u) upd_same
/-- what is wanted of an exception: caught (and kept at a) or passed on -/
def caught (tb : List (Addr × Bool)) (jz jn : Nat) (D : DEnds) (r : DL.Fr) : Addr → Mem → Prop := fun C M' => ∃ b, (C, b) ∈ tb ∧ (b = true → ∀ a, M' a = none → D.nx ((r.set jz (.v (.ref a))).set jn .n) (mup M' a (.ho (ExC (.ref C) a)))) ∧ (b = false → r.ex C M')
def gTryE (jz jn : Nat) (tb : List (Addr × Bool)) (gx : GX) : GS := fun D r M => gx (Fr.mute r) M (fun _ M' => D.nx r M') (caught tb jz jn D r)
def gTryV (jy jz jn : Nat) (tb : List (Addr × Bool)) (gx : GX) : GS := fun D r M => gx (Fr.mute r) M (fun d M' => D.nx (r.set jy (.v d)) M') (caught tb jz jn D r)
theorem caught_mono {tb : List (Addr × Bool)} {jz jn : Nat} {D D' : DEnds} (l : D.Le D') : ∀ C M', caught tb jz jn D r C M' → caught tb jz jn D' r C M' := fun C M' ⟨b, h, h1, h2⟩ => ⟨b, h, fun z a n => l.nx _ _ (h1 z a n), h2⟩
/-- the body's expression, in the try -/
def teX (X : Cx) (W : WX) (gx : GX) : TE := fun σ H Q => ∃ B E r M O, Rep X B E σ H r M O ∧ gx (Fr.mute r) M (fun d M' => ∀ v H' O', Rep X B E σ H' r M' O' → Is X.K (Av B M' O') H' v d → Q v H') (fun C M' => ∀ H' O', Rep X B E σ H' r M' O' → W (.ref C) none σ H')
theorem pe_try {e : Expr} {gx : GX} (he : TrX X e gx) {W : WX} {pn : List (Addr × Obj)} {xe : Value → Shared → Prop} (tk : Takes (X.tr pn xe) W) : PE (X.tr pn xe) e (teX X W gx) := by
  refine ⟨fun pins s σ H Q I ⟨B, E, r, M, O, R, q⟩ => ?_⟩
  refine he.run pn xe pins s σ H Q (fun C H' => W (.ref C) none σ H') I (fun pins1 H1 s1 u s' I1 c => tk u s' (XE.of_call (X := X.tr pn xe) I1 (fun cls d H' z => ?_) c)) B E.mute (Fr.mute r) M O (fun C M' => ∀ H' O', Rep X B E σ H' r M' O' → W (.ref C) none σ H') (R.mute pn xe) ?_ fun C M' H' O' R' z => z H' O' (R.unmute R')
  · obtain ⟨C, rfl, rfl, w⟩ := z
    exact w
  · exact he.mono _ _ _ _ _ _ (fun d M' k v H' O' R' i => k v H' O' (R.unmute R') i) (fun _ _ z => z) q
def tsX (jz jn : Nat) : TS := fun D σ H => ∃ v, σ[jn]? = some (some v) ∧ D.nx (σ.set jz (some v)) H
theorem suite_end {jz jn : Nat} {tb : List (Addr × Bool)} {c : Addr} {D : Ends} (hne : jz ≠ jn) (hjn : jn < X.N.length) (hl : σ.length = X.N.length) (R : Rep X B E σ H r M O) (htb : ∀ C b, (C, b) ∈ tb → PySem.W.exmOne X.K (.ref C) (.ref c) = some b) :
    ∀ C M', caught tb jz jn (LS X B E D) r C M' → ∀ H' O', Rep X B E σ H' r M' O' → wExc X.K (.ref c) jn (fun _ _ _ => tsX jz jn) (fun cls d _ H => xk E.W cls d H) D (.ref C) none σ H' := by
  rintro C M' ⟨b, hb, h1, h2⟩ H' O' R'
  refine ⟨b, htb C b hb, fun hb' => ⟨rfl, fun a na => ?_⟩, fun hb' => ⟨C, rfl, rfl, R.exc C M' H' O' (R'.m.subB R.sub) R'.ent (by rw [← R.xe]; exact h2 hb')⟩⟩
  refine ⟨.ref a, List.getElem?_set_self (by rw [hl]; exact hjn), ?_⟩
  have e : (((σ.set jn (some (.ref a))).set jz (some (.ref a))).set jn none) = (σ.set jz (some (.ref a))).set jn none := by
    rw [List.set_comm _ _ hne, List.set_set, List.set_comm _ _ (Ne.symm hne)]
  show D.nx (((σ.set jn (some (.ref a))).set jz (some (.ref a))).set jn none) _
  rw [e]
  have nM : M' a = none := by
    cases em : M' a with
    | none => rfl
    | some mo => exact absurd na ((R'.m.mem a mo em).2.2.there)
  exact h1 hb' a nM _ _ O' (((R'.keep na).setv jz (.ref a)).setn jn)
section
variable {e : Expr} {gx : GX} {cx n : Str} {c : Addr} {jy jz jn : Nat} {tb : List (Addr × Bool)} {y z : Str} {py spos np pz pn' apos pos' pos : Pos}
theorem ds_tryE (jz jn : Nat) (hex : X.ex = []) (hst : X.stack = X.env :: X.outer) (hf : X.env.frame = some X.env.locals) (hN : X.N.Nodup) (hc : Names X cx (.ref c)) (htb : ∀ C b, (C, b) ∈ tb → PySem.W.exmOne X.K (.ref C) (.ref c) = some b) (he : TrX X e gx)
    (hi : X.N[jn]? = some n := by rfl) (hln : X.env.kindOf n = some .local := by rfl) (hz : X.N[jz]? = some z := by rfl) (hzl : X.env.scope.names.lookup z = some .local := by rfl) (hnl : X.env.scope.names.lookup n = some .local := by rfl)
    (hne : jz ≠ jn := by decide) (hn1 : (n == ("__debug__" : Str)) = false := by decide) (hn2 : (n == ("__classdict__" : Str)) = false := by decide)
    (hs1 : swapsWith e none spos.line X.env = pure false := by rfl) (hs2 : swapsWith (.Name n pn') (some (.Name z pz)) apos.line X.env = pure false := by rfl) :
    DS X (.Try [.Expr e spos] [.ExceptHandler (some (.Name cx np)) (some n) [.Assign [.Name z pz] (.Name n pn') apos] pos'] [] [] pos) (gTryE jz jn tb gx) := by
  refine ⟨⟨fun pins s σ H D I ⟨B, E, r, M, O, R, q⟩ => ?_⟩, fun D D' r M l q => he.mono _ _ _ _ _ _ (fun d M' k => l.nx _ _ k) (caught_mono l) q⟩
  refine (ps_try_exc (tb := fun W D σ H => teX X W gx σ H fun v H1 => D.nx σ H1) (ts := fun _ _ _ => tsX jz jn) (Wout := fun cls d _ H => xk E.W cls d H) hex hst hf hN hi hln hc R.lk (fun W pn xe tk _ => ?_) (fun a oe cls d pn _ _ => ?_)).run pins s σ H D I ?_
  · exact pss_one (ps_expr (X := X.tr pn xe) (pe_try he tk) hs1)
  · exact pss_one (ps_set (X := X.suite a ((a, oe) :: pn)) hN hz (.inl hzl) (pe_var (X := X.suite a ((a, oe) :: pn)) hi (.inl hnl) hn1 hn2) hs2 (.inr hzl))
  · exact ⟨B, E, r, M, O, R, he.mono _ _ _ _ _ _ (fun d M' k v H' O' R' i => k σ H' O' R') (fun C M' k => suite_end hne (List.getElem?_eq_some_iff.mp hi).1 I.len R htb C M' k) q⟩
end
end
end DL
set_option Elab.async false
set_option linter.all false
set_option maxRecDepth 100000
set_option maxHeartbeats 2000000
namespace DL
open PySem PySem.Spec PySem.W PyProof.Rows L2
theorem excB_ok {K : PySem.W.Frag} {D : Addr} (h : excB K D = true) : ExcC K D := by
  obtain ⟨h1, h⟩ := He.ba h
  obtain ⟨h2, h⟩ := He.ba h
  obtain ⟨h3, h⟩ := He.ba h
  obtain ⟨h4, h⟩ := He.ba h
  obtain ⟨h5, h⟩ := He.ba h
  obtain ⟨h6, h⟩ := He.ba h
  obtain ⟨h7, h8⟩ := He.ba h
  exact ⟨of_decide_eq_true h1, of_decide_eq_true h2, of_decide_eq_true h3, h4, of_decide_eq_true h5, of_decide_eq_true h6, of_decide_eq_true h7, of_decide_eq_true h8⟩
section
variable {X : Cx}
def rIsX (K : PySem.W.Frag) : List V → Hp → VK → Prop := fun xs H Q => ∃ (a C : Addr) (c : V) (b : Bool), xs = [.ref a, c] ∧ H a = some (ExC (.ref C) a) ∧ ExcC K C ∧
  ((∃ cv, (∀ u, RelV c u → u = cv) ∧ PySem.W.kitOne K (.ref C) cv = some b) ∨ (∃ tp vs cvs, c = .ref tp ∧ SqT K H tp vs ∧ (∀ us, Vals vs us → us = cvs) ∧ PySem.W.kitAny K (.ref C) cvs = some b)) ∧ Q (.bl b) H
theorem call_isX : CallR X (.builtin "isinstance") (rIsX X.K) := by
  intro pins s σ H xs us Q I r h
  obtain ⟨a, C, c, b, rfl, ha, hC, hc, q⟩ := h
  cases r with
  | cons rx rr =>
    cases rr with
    | cons rt rr =>
      cases rr
      cases rx
      obtain ⟨⟨oe, vs, hget, hz, hv⟩, -⟩ := I.hok a _ ha
      have J : PySem.W.InstAt s.heap a oe C none := by
        obtain ⟨oc, od, oda, osl⟩ := oe
        obtain ⟨h1, h2⟩ := hz
        dsimp only at h1 h2 hv
        subst h1 h2 hv
        exact ⟨hget, rfl, rfl, trivial⟩
      rcases hc with ⟨cv, hcv, e⟩ | ⟨tp, ws, cvs, rfl, hs, hcv, e⟩
      · have ec := hcv _ rt
        subst ec
        exact PySem.W.kia_one (PySem.W.handS_kitx_exc hC.hg hC.hk hC.hs hC.hd hC.ha hC.hn hC.ht hC.hm) I.kIn J e (fun z => nomatch z) fun tk => ⟨.bl b, H, I.kept (t' := tk) fun _ _ z => z, rfl, q⟩
      · cases rt
        obtain ⟨its, rv, ht, hz⟩ := I.tuple hs
        have ec := hcv _ rv
        subst ec
        obtain ⟨⟨oc, od, oda, osl⟩, ho, hcl, n, hda⟩ := id ht
        dsimp only at hcl hda
        subst hcl hda
        exact PySem.W.kia_tup (PySem.W.handS_kitx_exc hC.hg hC.hk hC.hs hC.hd hC.ha hC.hn hC.ht hC.hm) I.kIn J ho e (fun z => nomatch z) fun tk => ⟨.bl b, H, I.kept (t' := tk) fun _ _ z => z, rfl, q⟩
/-- isinstance of a caught exception: tb tells it of a class's instance -/
def gcIsX (tb : List (Addr × D × Bool)) : GC := fun ds M Q => match ds with
  | [.ref a, c] => ∃ C b, M a = some (.ho (ExC (.ref C) a)) ∧ (C, c, b) ∈ tb ∧ Q (.bl b) M
  | _ => False
def isCls : D → Bool
  | .ref _ => true
  | .ty _ => true
  | _ => false
theorem cls_val {K : PySem.W.Frag} {A : Addr → Prop} {H : Hp} {v : V} : ∀ {d : D}, isCls d = true → Is1 K A H v d → ∀ u, RelV v u → u = clsV d
  | .ref a, _, i, u, r => by
    have := is1_ref i
    subst this
    exact r
  | .ty z, _, i, u, r => by
    have i : Is K A H v (.ty z) := i
    cases i
    exact r
  | .non, h, _, _, _ => by cases h
  | .bl _, h, _, _, _ => by cases h
  | .int _, h, _, _, _ => by cases h
  | .str _, h, _, _, _ => by cases h
  | .tup _, h, _, _, _ => by cases h
  | .lst _, h, _, _, _ => by cases h
  | .dic _, h, _, _, _ => by cases h
theorem cls_vals {K : PySem.W.Frag} {A : Addr → Prop} {H : Hp} : ∀ {vs : List V} {ds : List D}, ds.all isCls = true → IsL K A H vs ds → ∀ us, Vals vs us → us = ds.map clsV
  | _, _, _, .nil, _, .nil => rfl
  | _, _, h, .cons i t, _, .cons r rs => by
    rw [List.all_cons, Bool.and_eq_true] at h
    rw [List.map_cons, cls_val h.1 i.one _ r, cls_vals h.2 t _ rs]
def okC : D → Bool
  | .tup ds => ds.all isCls
  | d => isCls d
theorem ca_isX {tb : List (Addr × D × Bool)} (ht : ∀ C c b, (C, c, b) ∈ tb → ExcC X.K C ∧ okC c = true ∧ kitD X.K (.ref C) c = some b) : CaD X (.builtin "isinstance") (gcIsX tb) where
  ex := ⟨_, call_isX, fun B E σ H r M O xs ds Q R ii q => by
    unfold gcIsX at q
    split at q
    · rename_i a c
      obtain ⟨v, u, rfl, i, j⟩ := isXL2 ii
      have := is1_ref i
      subst this
      obtain ⟨C, b, em, hm, q⟩ := q
      obtain ⟨h1, h2, h3⟩ := ht C c b hm
      obtain ⟨_, _, hH⟩ := R.m.mem a _ em
      refine ⟨a, C, u, b, rfl, hH, h1, ?_, fin_v R (.bl _) q⟩
      cases c
      case tup ds =>
        obtain ⟨tp, vs, e, h, l⟩ := j
        exact .inr ⟨tp, vs, _, e, h.sq, cls_vals h2 l, h3⟩
      case ref a' => exact .inl ⟨_, cls_val (d := .ref a') h2 j, h3⟩
      case ty z => exact .inl ⟨_, cls_val (d := .ty z) h2 j, h3⟩
      all_goals cases h2
    · exact q.elim⟩
  mono := fun d M Q Q' h q => by
    unfold gcIsX at q ⊢
    split at q
    · obtain ⟨C, b, h1, h2, q⟩ := q
      exact ⟨C, b, h1, h2, h _ _ q⟩
    · exact q.elim
end
end DL
set_option Elab.async false
set_option linter.all false
set_option maxRecDepth 100000
set_option maxHeartbeats 2000000
namespace DL
open PySem PySem.Spec PySem.W PyProof.Rows L2
section
variable {X : Cx} {p w : Bool} {a b : Expr} {ga gb : GE}
def rCountD (K : PySem.W.Frag) : V → List V → Hp → VK → Prop := fun x xs H Q => ∃ (a : Addr) (y : V) (d : PyData) (ds : List PyData), x = V.ref a ∧ xs = [y] ∧ Dp K H (V.ref a) (.list ds) ∧ Dp K H y d ∧
  SeqAt.shaped (.list ds) = true ∧ SeqAt.shaped d = true ∧ Q (.int (ds.countP fun z => PyData.eqv z d : Nat)) H
theorem mt_countD (hu : X.A.units + 65 < cLine) : MtR X "list.count" (rCountD X.K) := by
  intro pins s σ H x xs v us Q I rx rxs h
  obtain ⟨a, y, d, ds, rfl, rfl, hl, hy, sl, sd, q⟩ := h
  cases rx
  cases rxs with
  | cons ry rt =>
    rename_i uy ut
    cases rt
    obtain ⟨bs, r1⟩ := Dp.reads I d y uy hy ry
    have hxs : PyData.canLayAll0 ds = true := SeqAt.canLay_of_shaped sl
    have hroom : X.A.units + 1 + min (PyData.depthAll ds) d.depth < cLine := room_in_shaped sd hu
    cases hl with
    | lst hs ha =>
      obtain ⟨its, rv, ⟨⟨cls, dd, data, sls⟩, n, ho, hc, hdn, hdt⟩, hlen⟩ := I.list hs
      simp only at hc hdt
      subst hc hdt
      obtain ⟨as, h4⟩ := Dp.readsAll I ds _ its ha rv
      have hmap : its.map (SeqAt.readOf s.heap) = ds := SeqAt.readsAll_map ds its as hxs h4
      refine call_meets PySem.F.slot_list_count ⟨_, ho, rfl⟩ PySem.F.entry_list_count (PySem.F.args_list_count_2 _ _)
        (SeqAt.list_countAt a its.toArray n dd sls uy (fun u => PyData.eqv (SeqAt.readOf s.heap u) d)) ⟨ho, SeqAt.items_eqAt (vs := its.toArray) (show ReadsAll s.heap its.toArray.toList ds as from h4) r1 hxs (SeqAt.canLay_of_shaped sd) hroom, ?_⟩
      have e : its.toArray.toList.countP (fun u => PyData.eqv (SeqAt.readOf s.heap u) d) = ds.countP fun z => PyData.eqv z d := by
        rw [← hmap, List.countP_map]
        rfl
      rw [e]
      exact ⟨.int _, H, I.tok _, ⟨_, rfl⟩, q⟩
theorem pyL_count (e : D) : ∀ ds : List D, (D.pyL ds).countP (fun z => PyData.eqv z e.py) = ds.countP fun z => z.eqv e
  | [] => rfl
  | d :: r => by
    show (d.py :: D.pyL r).countP _ = _
    rw [List.countP_cons, List.countP_cons, pyL_count e r]
    rfl
def gCnt (ga gb : GE) : GE := fun r M Q => ga r M fun d M1 => match d with
  | .lst ds => gb r M1 fun e M2 => (D.ok (.lst ds) = true ∧ e.ok = true) ∧ Q (.int (ds.countP fun z => z.eqv e : Nat)) M2
  | _ => False
theorem de_count {nm : Str} {apos cpos : Pos} (hnm : nm = "count" := by rfl) (hu : X.A.units + 65 < cLine) (ha : DE true p X a ga) (hb : DE true p X b gb)
    (hbase : attributeBase a "count" X.env (eval a X.env) = eval a X.env := by rfl)
    (hfew : ((backTo cpos (starEach [b] X.env)).all (fun x => !x.1) && (backToKw cpos (keywordEach [] X.env)).all (fun x => x.1.isSome)
      && decide ([b].length + ([] : List Keyword).length + (if ([] : List Keyword).isEmpty then 0 else 1) < 30)) = true := by rfl)
    (hline : (apos.endLine == cpos.line) = true := by rfl) (hs : starEach [b] X.env = (false, eval b X.env) :: starEach [] X.env := by rfl) (hplain : (backTo cpos (starEach [] X.env)).any (·.1) = false := by rfl) :
    DE true p X (.Call (.Attribute a nm apos) [b] [] cpos) (gCnt ga gb) := by
  subst hnm
  refine ⟨peI (pe_bm PySem.F.plainAttrs_list PySem.F.slot_list_count PySem.F.type_list_count (mt_countD hu) ha.run (da_one hb hs).run hbase hfew hline hs hplain) fun σ H Q ⟨B, E, r, M, O, R, q⟩ => ?_, fun r M Q Q' h q => ha.mono _ _ _ _ (fun d M1 q1 => by
    split at q1
    · exact hb.mono _ _ _ _ (fun e M2 q2 => ⟨q2.1, h _ _ q2.2⟩) q1
    · exact q1) q⟩
  refine ha.on R q fun d M1 v H1 O1 k1 R1 l1 i1 => ?_
  have i1 : Is X.K (Av B M1 O1) H1 v d := i1
  split at k1
  · rename_i ds _
    cases i1 with
    | @lst l vs _ h l3 =>
      refine ⟨.inl ⟨rfl, _, SqL.of h.2⟩, ?_⟩
      refine (da_one hb hs).on R1 (k := fun zs M2 => ∃ e, zs = [e] ∧ (D.ok (.lst ds) = true ∧ e.ok = true) ∧ LE true p X B E σ r H M O Q (.int (ds.countP fun z => z.eqv e : Nat)) M2) (hb.mono _ _ _ _ (fun e M2 q2 => ⟨e, rfl, q2⟩) k1) fun zs M2 us H2 O2 k2 R2 l2 i2 => ?_
      obtain ⟨e, rfl, ⟨ok1, ok2⟩, k2⟩ := k2
      have jj := isXL_strong i2
      cases jj with
      | @cons u _ _ _ iu t =>
        cases t
        have iL : Is X.K (Av B M2 O2) H2 (.ref l) (.lst ds) := Is.step l2.avs (.lst h l3)
        refine ⟨l, u, e.py, D.pyL ds, rfl, rfl, iL.dp (ok_and ok1).1, iu.dp (ok_and ok2).1, (ok_and ok1).2, (ok_and ok2).2, ?_⟩
        rw [pyL_count]
        exact fin_v R2 (.int _) fun v3 H3 O3 R3 l4 i3 => k2 v3 H3 O3 R3 ((l1.trans l2).trans l4.weak) i3
  · exact k1.elim
end
end DL
set_option Elab.async false
set_option linter.all false
set_option maxRecDepth 100000
namespace DL
open PySem PySem.Spec PySem.W PyProof.Rows L2
section
variable {fa : List He.Fa} {fn : List He.DefD} {ts : List He.Tab} {cs : List Ck} {w : World} {K : PySem.W.Frag} {mg : Str → Option Value}
theorem Wor.exm (W : Wor fa fn K mg) (i : Nat) {x y : Str} {b : Bool} (h : fa[i]? = some (.exm x y b) := by rfl) : PySem.W.exmOne K (.ref (He.ga K x)) (.ref (He.ga K y)) = some b := He.exm_ok (W.c.fact i h)
theorem WorC.exq (W : WorC fa fn ts cs w K mg) (i : Nat) {x : Str} (h : cs[i]? = some (.exq x) := by rfl) : ExcC K (He.ga K x) := excB_ok (W.ck i h)
theorem WorC.isq (W : WorC fa fn ts cs w K mg) (i : Nat) {x : Str} {c : PySem.W.Frag → D} {b : Bool} (h : cs[i]? = some (.isq x c b) := by rfl) : kitD K (.ref (He.ga K x)) (c K) = some b := of_decide_eq_true (W.ck i h)
end
section
variable {K : PySem.W.Frag} {c x : Addr} {b : Bool} {tb : List (Addr × Bool)} {tbx : List (Addr × D × Bool)} {d : D}
def TbOk (K : PySem.W.Frag) (c : Addr) (tb : List (Addr × Bool)) : Prop := ∀ C b, (C, b) ∈ tb → PySem.W.exmOne K (.ref C) (.ref c) = some b
theorem tb_nil : TbOk K c [] := fun _ _ h => by cases h
theorem tb_cons (h : PySem.W.exmOne K (.ref x) (.ref c) = some b) (t : TbOk K c tb) : TbOk K c ((x, b) :: tb) := fun C b' h2 => by
  rcases List.mem_cons.mp h2 with e | e
  · cases e
    exact h
  · exact t C b' e
def TbxOk (K : PySem.W.Frag) (tb : List (Addr × D × Bool)) : Prop := ∀ C c b, (C, c, b) ∈ tb → ExcC K C ∧ okC c = true ∧ kitD K (.ref C) c = some b
theorem tbx_nil : TbxOk K [] := fun _ _ _ h => by cases h
theorem tbx_cons (h1 : ExcC K x) (h2 : okC d = true) (h3 : kitD K (.ref x) d = some b) (t : TbxOk K tbx) : TbxOk K ((x, d, b) :: tbx) := fun C c' b' h => by
  rcases List.mem_cons.mp h with e | e
  · cases e
    exact ⟨h1, h2, h3⟩
  · exact t C c' b' e
end
section
variable {X : Cx} {p : Bool} {e : Expr} {es : List Expr} {gs : GA} {pos pf : Pos} {n : Nat} {x : Str} {ps : List Str} {ks : List AK} {fs : FS}
theorem dg_cls (h : X.mg x = some (.ref (He.ga X.K x))) (hg : Gl X x := by rfl) (hd : (x == ("__debug__" : Str)) = false := by decide) : DE true p X (.Name x pos) (gC (.ref (He.ga X.K x))) :=
  de_glob (v := .ref (He.ga X.K x)) hg h rfl (fun _ _ => .ref _) hd
end
end DL
set_option Elab.async false
set_option linter.all false
set_option maxRecDepth 100000
namespace DL
open PySem PySem.Spec PySem.W PyProof.Rows L2
def stepL {α : Type} (c : Int) (xs : List α) : List α := if c = 1 then xs else xs.reverse
section
variable {X : Cx} {p w w1 w2 : Bool} {a b e : Expr} {ga gb : GE} {pos : Pos}
def stepK (d e : D) (M : Mem) (Q : D → Mem → Prop) : Prop := match d, e with
  | .lst xs, .int c => (c = 1 ∨ c = -1) ∧ Q (.lst (stepL c xs)) M
  | _, _ => False
theorem stepK_lst {xs : List D} {c : Int} {M : Mem} {Q : D → Mem → Prop} : stepK (.lst xs) (.int c) M Q = ((c = 1 ∨ c = -1) ∧ Q (.lst (stepL c xs)) M) := rfl
def gStep (ga gb : GE) : GE := fun r M Q => ga r M fun d M1 => gb r M1 fun e M2 => stepK d e M2 Q
end
end DL
set_option Elab.async false
set_option linter.all false
set_option maxRecDepth 100000
namespace DL
open PySem PySem.Spec PySem.W PyProof.Rows L2
end DL
set_option Elab.async false
set_option linter.all false
set_option maxRecDepth 100000
namespace DL
open PySem PySem.Spec PySem.W PyProof.Rows L2
section
variable {X : Cx} {p : Bool} {e : Expr} {gf : GF} {pos : Pos}
/-- x.append(a new list), that stands in memory -/
def gAppM (i : Nat) (gf : GF) : GS := fun D r M => match r.sl[i]? with
  | some (.o (.lst ds)) => gf r M fun m M1 => ds.length < sizeLine ∧ ∀ a, M1 a = none → D.nx (r.set i (.o (.lst (ds ++ [.ref a])))) (mup M1 a (.om m))
  | _ => False
end
end DL
set_option Elab.async false
set_option linter.all false
set_option maxRecDepth 100000
namespace DL
open PySem PySem.Spec PySem.W PyProof.Rows L2
section
variable {X : Cx} {w w1 w2 w3 p : Bool} {a b c e f o : Expr} {es : List Expr} {ga gb gc go ge gz : GE} {gf : GF} {B : Addr → Prop} {E : En} {σ : L2.St} {H : Hp} {r : Fr} {M : Mem} {O : Own} {pos pos' : Pos}
/-- a dict that is made as data -/
def FzD (Q : VK) (v : V) (H : Hp) : Prop := ∃ a kvs, v = .ref a ∧ H a = some (.dK kvs) ∧ ∀ o, Q v (upd H a (.frz o (.dK kvs)))
theorem pe_fz {t : TE} (h : PE X e t) : PE X e (fun σ H Q => t σ H (FzD Q)) :=
  ⟨fun pins s σ H Q I q => thn (h.run pins s σ H _ I q) fun u s1 ⟨x, H1, I1, r1, a, kvs, ex, e1, q1⟩ => by
    obtain ⟨o, I2⟩ := I1.lock e1 trivial
    exact ⟨x, _, I2, r1, q1 o⟩⟩
theorem IsK.step' {K : PySem.W.Frag} {A : Addr → Prop} {H H' : Hp} {kvs : List (Key × V)} {kds : List (Key × D)} (s : Same H H') (l : IsK K A H kvs kds) : IsK K A H' kvs kds := l.step (step_same s fun _ n => n)
theorem fin_dic {Q : VK} (R : Rep X B E σ H r M O) {kvs : List (Key × V)} {kds : List (Key × D)} (l : IsK X.K (Av B M O) H kvs kds) (q : LE w p X B E σ r H M O Q (.dic kds) M) {a : Addr} (n : H a = none) : FzD Q (.ref a) (upd H a (.dK kvs)) :=
  ⟨a, kvs, rfl, upd_same, fun o => by
    rw [upd_upd]
    exact q _ _ O (R.same (same_upd n)) (Rl.of_same (same_upd n)) (IsX.of (.dic ⟨R.m.fresh n, o, upd_same⟩ (l.step' (same_upd n))))⟩
def pairsOf : List D → Option (List (Key × D))
  | [] => some []
  | .tup [k, v] :: r => match keyD k, pairsOf r with
    | some k, some l => some ((k, v) :: l)
    | _, _ => none
  | _ => none
def dictK (d : D) (k : List (Key × D) → Prop) : Prop := match d with
  | .lst xs => ∃ kds, pairsOf xs = some kds ∧ k (mergeD [] kds)
  | .tup xs => ∃ kds, pairsOf xs = some kds ∧ k (mergeD [] kds)
  | .dic kds => k kds
  | _ => False
theorem dictK_lst {xs : List D} {k : List (Key × D) → Prop} : dictK (.lst xs) k = ∃ kds, pairsOf xs = some kds ∧ k (mergeD [] kds) := rfl
theorem dictK_tup {xs : List D} {k : List (Key × D) → Prop} : dictK (.tup xs) k = ∃ kds, pairsOf xs = some kds ∧ k (mergeD [] kds) := rfl
theorem dictK_dic {kds : List (Key × D)} {k : List (Key × D) → Prop} : dictK (.dic kds) k = k kds := rfl
def gDictV (ga : GE) : GE := fun r M Q => ga r M fun d M1 => dictK d fun kds => Q (.dic kds) M1
def gFdict (ga : GE) : GF := fun r M Q => ga r M fun d M1 => dictK d fun kds => Q (.dic kds) M1
/-- {} -/
def gDic0 : GE := fun _ M Q => Q (.dic []) M
def gFdic0 : GF := fun _ M Q => Q (.dic []) M
theorem de_dic0 : DE true p X (.Dict [] [] pos) gDic0 :=
  ⟨peI (pe_fz pe_dnewK) fun σ H Q ⟨B, E, r, M, O, R, q⟩ a n => fin_dic R .nil q n, fun r M Q Q' h q => h _ _ q⟩
def dicK (d : D) (k : List (Key × D) → Prop) : Prop := match d with
  | .dic kds => k kds
  | _ => False
theorem dicK_dic {kds : List (Key × D)} {k : List (Key × D) → Prop} : dicK (.dic kds) k = k kds := rfl
def getK (kds : List (Key × D)) (e z : D) (k : D → Prop) : Prop := ∃ key, keyD e = some key ∧ k ((valD kds key).getD z)
/-- d.get(k), d.get(k, x) -/
def gDGet1 (go ge : GE) : GE := fun r M Q => go r M fun d M1 => dicK d fun kds => ge r M1 fun e M2 => getK kds e .non fun z => Q z M2
def gDGet2 (go ge gz : GE) : GE := fun r M Q => go r M fun d M1 => dicK d fun kds => ge r M1 fun e M2 => gz r M2 fun z M3 => getK kds e z fun z => Q z M3
def giKeys (ga : GE) : GI := fun r M Q => ga r M fun d M1 => dicK d fun kds => Q (kds.map fun kv => kD kv.1) M1
end
end DL
set_option Elab.async false
set_option linter.all false
set_option maxRecDepth 100000
namespace DL
open PySem PySem.Spec PySem.W PyProof.Rows L2
section
variable {X : Cx} {w w1 w2 w3 p : Bool} {a b c e f o : Expr} {es : List Expr} {ga gb gc go ge gv gz : GE} {gf : GF} {B : Addr → Prop} {E : En} {σ : L2.St} {H : Hp} {r : Fr} {M : Mem} {O : Own} {pos pos' : Pos}
/-- x[k] = v, x a slot's own dict -/
def gOPut (i : Nat) (ge gv : GE) : GS := fun D r M => match r.sl[i]? with
  | some (.o (.dic kds)) => gv r M fun v M1 => ge r M1 fun e M2 => ∃ k, keyD e = some k ∧ kds.length < sizeLine ∧ D.nx (r.set i (.o (.dic (putD kds k v)))) M2
  | _ => False
/-- x.pop(k, z), the value dropped -/
def dropD (kds : List (Key × D)) (k : Key) : List (Key × D) := kds.filter fun kv => decide (kv.1 ≠ k)
theorem IsK.drop {K : PySem.W.Frag} {A : Addr → Prop} {H : Hp} (k : Key) : ∀ {kvs : List (Key × V)} {kds : List (Key × D)}, IsK K A H kvs kds → IsK K A H (dropK kvs k) (dropD kds k)
  | _, _, .nil => .nil
  | _, _, .cons (k := j) h t => by
    unfold dropK dropD
    rw [List.filter_cons, List.filter_cons]
    by_cases e : j = k
    · rw [if_neg (by simp [e]), if_neg (by simp [e])]
      exact IsK.drop k t
    · rw [if_pos (by simp [e]), if_pos (by simp [e])]
      exact .cons h (IsK.drop k t)
def gOPop (i : Nat) (ge gz : GE) : GS := fun D r M => match r.sl[i]? with
  | some (.o (.dic kds)) => ge r M fun e M1 => gz r M1 fun z M2 => ∃ k, keyD e = some k ∧ D.nx (r.set i (.o (.dic (dropD kds k)))) M2
  | _ => False
def gPconsI (x : Int) (g : GE) (gs : GPs) : GPs := fun r M Q => g r M fun d M1 => gs r M1 fun kds M2 => Q ((.inl x, d) :: kds) M2
theorem dps_consI {x : Int} {j : Nat} {kp : Pos} {ks : List (Option Expr)} {gp : GPs} (ha : DE true p X a ga) (hr : DPs p X pos ks es gp) : DPs p X pos (some (.Constant (.int x) j kp) :: ks) (a :: es) (gPconsI x ga gp) := by
  obtain ⟨trs, h1, h2⟩ := hr.ex
  refine ⟨⟨_, pps_cons (pe_int (pos := kp)) ha.run h1, fun B E σ H r M O k Q R q h => ?_⟩, fun r M Q Q' h q => ha.mono _ _ _ _ (fun d M1 q1 => hr.mono _ _ _ _ (fun kds M2 q2 => h _ _ q2) q1) q,
    fun r M Q q => ha.mono _ _ _ _ (fun d M1 q1 => hr.mono _ _ _ _ (fun kds M2 q2 => ⟨congrArg (· + 1) q2.1, q2.2⟩) (hr.len _ _ _ q1)) q⟩
  refine ha.on R q fun d M1 v H1 O1 k1 R1 l1 i1 => ?_
  refine h2 B E σ H1 r M1 O1 _ _ R1 k1 fun kds M2 H2 O2 kvs k2 R2 l2 i2 => ?_
  exact h ((.inl x, d) :: kds) M2 H2 O2 ((.inl x, v) :: kvs) k2 R2 (l1.trans l2) (.cons (Is.step l2.avs i1) i2)
def gDispV (gp : GPs) : GE := fun r M Q => gp r M fun kds M1 => Q (.dic (mergeD [] kds)) M1
theorem de_dispV {keys : List (Option Expr)} {gp : GPs} (h : DPs p X pos keys es gp) (hall : keys.all (·.isSome) = true := by rfl) (hl : keys.length = es.length := by rfl) (h0 : keys ≠ [] := by simp) (h15 : keys.length ≤ 15 := by decide) : DE true p X (.Dict keys es pos) (gDispV gp) := by
  obtain ⟨trs, h1, h2⟩ := h.ex
  refine ⟨peI (pe_fz (pe_disp h1 hall hl h0 h15)) fun σ H Q ⟨B, E, r, M, O, R, q⟩ => ?_, fun r M Q Q' hh q => h.mono r M _ _ (fun kds M1 q1 => hh _ _ q1) q⟩
  intro a n
  have N := New.of R n (o := .dK [])
  refine h2 (Bp B a) E σ (upd H a (.dK [])) r M O _ _ N.rep (h.len _ _ _ q) fun kds M1 H1 O1 kvs k1 R1 l1 i1 => ?_
  have eb : H1 a = some (.dK []) := (l1.2 a _ upd_same fun z => N.nav (.inr z)).1
  have N1 : New X B E σ H1 r M1 O1 a := N.next (l := l1) R1 (by rw [upd_same]; simp)
  refine ⟨eb, kvs, rfl, by rw [i1.len, k1.1]; exact h15, a, _, rfl, upd_same, fun ob => ?_⟩
  rw [upd_upd]
  have N2 := N1.put (u := .frz ob (.dK (mergeK [] kvs))) (by rw [eb]; simp)
  refine k1.2 _ _ O1 N2.any (((Rl.of_same (same_upd n)).trans l1).put n) (IsX.of (.dic ⟨N2.nav, ob, upd_same⟩ (IsK.merge (i1.step fun b u e nb => ?_) .nil)))
  have nb' : b ≠ a := fun z => nb (by rw [av_bp]; exact .inr z)
  exact ⟨by rw [upd_ne nb']; exact e, fun z => nb (by rw [av_bp]; exact .inl z)⟩
end
end DL
set_option Elab.async false
set_option linter.all false
set_option maxRecDepth 100000
namespace DL
open PySem PySem.Spec PySem.W PyProof.Rows L2
section
variable {X : Cx} {w p : Bool} {a b e : Expr} {gs : GA} {B : Addr → Prop} {E : En} {σ : L2.St} {H : Hp} {r : Fr} {M : Mem} {O : Own} {pos : Pos}
def gOIns (i : Nat) (gs : GA) : GS := fun D r M => match r.sl[i]? with
  | some (.o (.lst ds)) => gs r M fun zs M1 => ins2K zs ds fun ds' => D.nx (r.set i (.o (.lst ds'))) M1
  | _ => False
end
end DL
set_option Elab.async false
set_option linter.all false
set_option maxRecDepth 100000
set_option maxHeartbeats 2000000
namespace DL
open PySem PySem.Spec PySem.W PyProof.Rows L2 LamX
abbrev LmT := Mem → (D → Mem → Prop) → (Addr → Mem → Prop) → Prop
abbrev LSp := XK → Hp → VK → Prop
def MonoT (tl : LmT) : Prop := ∀ M Q Q' X X', (∀ d M', Q d M' → Q' d M') → (∀ C M', X C M' → X' C M') → tl M Q X → tl M Q' X'
/-- what a lambda promises, wherever it is called -/
def LamPr (K : PySem.W.Frag) (U0 : Addr → Prop) (H0 : Hp) (tl : LmT) (sp : LSp) : Prop := ∀ (B : Addr → Prop) (M : Mem) (O : Own) (H : Hp) (Qd : D → Mem → Prop) (Xd : Addr → Mem → Prop) (Q : VK) (E : XK), MemOk K B H M O → Flds O → Step U0 H0 (Av B M O) H → tl M Qd Xd →
  (∀ d M' v H' O', Qd d M' → MemOk K B H' M' O' → Flds O' → Step (Mut M O) H (Mut M' O') H' → Is K (Av B M' O') H' v d → Q v H') →
  (∀ C M' H' O', Xd C M' → MemOk K B H' M' O' → Flds O' → Step (Mut M O) H (Mut M' O') H' → E (.ref C) none H') → sp E H Q
/-- f, called within X -/
def LamAct (X : Cx) (f : Addr) (sp : LSp) : Prop := ∀ (pn : List (Addr × Obj)) (xe : Value → Shared → Prop) (pins : List (Addr × Obj)) (s : Shared) (σ : L2.St) (H : Hp) (Q : VK) (E : XK), Inv (X.tr pn xe) pins σ H s → sp E H Q →
  (∀ u s', L2.CX X.prog X.w X.stack H s E u s' → xe u s') → PySem.W.FnAt f s.heap ∧ wpAny (model X.prog X.w) X.A (call (.ref f) []) (EP (X.tr pn xe) pins σ Q) xe s
section
variable {X : Cx} {B : Addr → Prop} {E : En} {σ : L2.St} {H H' : Hp} {r : DL.Fr} {M M' : Mem} {O O' : Own}
theorem MemOk.below (m : MemOk X.K B H M O) : MemOk X.K (Bs B O) H M (DL.drops O) := by
  refine ⟨fun b mo e => ?_, fun b w e => ?_, fun b z => ?_⟩
  · obtain ⟨h1, h2, h3⟩ := m.mem b mo e
    refine ⟨fun z => z.elim h1 fun ⟨i, hi⟩ => (by rw [hi] at h2; cases h2), by unfold DL.drops; rw [h2], ?_⟩
    rw [av_bs]
    exact h3.stepS (Step.refl _ _) (fun _ e => e) fun l f q => ⟨by unfold DL.drops; rw [q], fun _ e => e⟩
  · unfold DL.drops at e
    split at e
    · rename_i q
      cases e
      obtain ⟨h1, h2⟩ := m.own b _ q
      exact ⟨fun z => z.elim h1 fun ⟨i, hi⟩ => (by rw [hi] at q; cases q), h2⟩
    · cases e
  · rcases z with z | ⟨i, hi⟩
    · exact m.btr b z
    · exact (m.own b _ hi).2
/-- the lambda's promise at the callee's state -/
theorem act_pre {lm : Lm} {sp : LSp} (hp : LamPr X.K lm.U lm.H lm.tl sp) (R : Rep X B E σ H r M O) {i : Nat} (hs : r.sl[i]? = some (.f lm)) {Qd : D → Mem → Prop} {Xd : Addr → Mem → Prop} {Q : VK} {Ex : XK} (q : lm.tl M Qd Xd)
    (h1 : ∀ d M' v H' O', Qd d M' → Rep X B E σ H' r M' O' → Rl false M O H M' O' H' → Is X.K (Av B M' O') H' v d → Q v H') (h2 : ∀ C M' H' O', Xd C M' → Rep X B E σ H' r M' O' → Ex (.ref C) none H') : sp Ex H Q := by
  obtain ⟨x, e1, e2, e3⟩ := R.slot hs
  refine hp (Bs B O) M (drops O) H Qd Xd Q Ex R.m.below (drops_flds O) (by rw [av_bs]; exact e3) q (fun d M' v H' O' k m _ s i => ?_) fun C M' H' O' k m _ s => ?_
  · obtain ⟨R', s', e'⟩ := R.called m s
    refine h1 d M' v H' _ k R' ⟨fun z => (nomatch z), s'⟩ ?_
    rw [e']
    exact i
  · obtain ⟨R', s', e'⟩ := R.called m s
    exact h2 C M' H' _ k R'
section
variable {a : Str} {p1 p2 : Pos} {lm : Lm} {sp : LSp}
/-- x(), x the lambda that was handed in -/
def gAct (i : Nat) (lm : Lm) : GE := fun r M Q => r.sl[i]? = some (.f lm) ∧ lm.tl M Q r.ex
def gxAct (i : Nat) (lm : Lm) : GX := fun r M Q Xc => r.sl[i]? = some (.f lm) ∧ lm.tl M Q Xc
theorem tx_act (i : Nat) (hm : MonoT lm.tl) (hp : LamPr X.K lm.U lm.H lm.tl sp) (act : LamAct X lm.f sp) (hN : X.N[i]? = some a := by rfl) (hv : Vis X.env.scope a := by first | exact Or.inl rfl | exact Or.inr (Or.inl rfl) | exact Or.inr (Or.inr rfl)) (hd : (a == ("__debug__" : Str)) = false := by decide)
    (hcd : (a == ("__classdict__" : Str)) = false := by decide) : TrX X (.Call (.Name a p1) [] [] p2) (gxAct i lm) := by
  refine ⟨fun pn xe pins s σ H Q Wc I lk B E r M O Xc R ⟨hs, q⟩ hW => ?_, fun r M Q Q' Xc Xc' h hx q => ⟨q.1, hm _ _ _ _ _ h hx q.2⟩⟩
  obtain ⟨x, e1, e2, _⟩ := R.slot hs
  subst e2
  refine wpAny_Call_Name_kw (thn ((pe_var (X := X.tr pn xe) (pos := p1) hN hv hd hcd).run pins s σ H (fun v H1 => v = .ref lm.f ∧ H1 = H) I ⟨_, e1, rfl, rfl⟩) fun u s1 ⟨v, H1, I1, r1, ev, eH⟩ => ?_)
  subst ev
  rw [eH] at I1
  obtain rfl : u = Value.ref lm.f := r1
  obtain ⟨h1, h2⟩ := act pn xe pins s1 σ H Q (xk Wc) I1 (act_pre (X := X.tr pn xe) hp R hs q (fun d M' v H' O' k R' l i => k v H' O' R' i) fun C M' H' O' k R' => ⟨C, rfl, rfl, hW C M' H' O' R' k⟩) fun u s' c => lk pins H s1 u s' I1 c
  exact PySem.W.callWith_F0 h1 h2
end
end
end DL
set_option Elab.async false
set_option linter.all false
set_option maxRecDepth 100000
set_option maxHeartbeats 2000000
namespace DL
open PySem PySem.Spec PySem.W PyProof.Rows L2 LamX
section
variable {X : Cx} {pins : List (Addr × Obj)} {B : Addr → Prop} {E : En} {σ : L2.St} {H H' : Hp} {r : DL.Fr} {M M' : Mem} {O O' : Own} {s : Shared}
/-- what the table tells behind the making -/
structure Tabled (H : Hp) (P : Addr) (q : Str) (ps : Array Value) (c' : Addr) (H1 : Hp) : Prop where
  co : H1 c' = some (CodeO c' q)
  how : (H1 = H ∧ ∃ pos, codeAmong pos ps.toList = some (.ref c')) ∨ (H c' = none ∧ ∃ more : Array Value, H1 = upd (upd H P (.tbl (ps ++ more))) c' (CodeO c' q) ∧ TriplesOk (ps ++ more).toList ∧
    ∀ pos cv, codeAmong pos (ps ++ more).toList = some cv → codeAmong pos ps.toList = some cv ∨ cv = .ref c')
/-- the function object of a lambda -/
abbrev lamO (X : Cx) (params : Arguments) (body : Expr) (scope : Scope) (pm : Value) (c' : Addr) (ctv : Value) : Obj := PySem.W.kla_obj "<lambda>" (X.env.qual ++ "<lambda>") params body scope (cloFrom X.env.cells scope.names []) pm c' ctv
theorem lam_new {ps : Array Value} {c P : Addr} {params : Arguments} {body : Expr} {scope : Scope} {pos : Pos} {Ex : Value → Shared → Prop} {Q : Value → Shared → Prop} (I : Inv X pins σ H s) (TB : TabB X.base X.mg c P) (hcode : X.env.code = .ref c) (hP : H P = some (.tbl ps)) (ht : TriplesOk ps.toList)
    (old : ∀ pos cv, codeAmong pos ps.toList = some cv → ∃ c, cv = .ref c ∧ H c = some (CodeO c (X.env.qual ++ "<lambda>"))) (hdef : defaultsOf params X.env = ([], [])) (hfree : ∀ y ∈ scope.names, y.2 = .free → ∃ c, X.env.cells.lookup y.1 = some c)
    (h : ∀ (f c' : Addr) (pm ctv : Value) (H1 : Hp) (s' : Shared), Inv X ((f, lamO X params body scope pm c' ctv) :: pins) σ H1 s' → f ∉ frs X.stack → Tabled H P (X.env.qual ++ "<lambda>") ps c' H1 → Q (.ref f) s') :
    wpAny (model X.prog X.w) X.A (eval (.Lambda params body scope pos) X.env) Q Ex s := by
  refine PySem.W.kla_eval hdef ?_
  have hb : s.heap.BuiltinsAt X.mg P := TB.bm.keeps I.bk
  have hT : s.heap.get? P = some { cls := .none, data := .fields ps } := I.hok P _ hP
  have away : ∀ f, s.heap.objs.size ≤ f → f ∉ frs X.stack := fun f hf z => by
    rcases List.mem_cons.mp (I.stkSub _ z) with z | z
    · have := I.lt
      rw [← z] at this
      exact absurd hf (Nat.not_le.mpr this)
    · exact I.nofs hf z
  have nocell : ∀ (pm : Value) (c' : Addr) (ctv : Value) (v : Option Value), (lamO X params body scope pm c' ctv).data ≠ .cell v := fun _ _ _ _ z => nomatch z
  cases hc : codeAmong pos ps.toList with
  | some cv =>
    obtain ⟨c', rfl, hco⟩ := old pos cv hc
    refine PySem.W.kla_makeFunctionHit (mg := X.mg) (c := c) (P := P) (ps := ps) (closure_ok hfree) I.ok.glob (I.mod.glob.keeps I.bk) hcode (TB.code.keeps I.bk) hT ht hc hb fun ctv h' tk kp hsz => ?_
    exact h h'.objs.size c' _ ctv H _ (ClX.pin_new (t' := tk) I (fun b o e => Heap.get?_push_of_some _ (kp b o e)) hsz (Heap.get?_push_size _ rfl) (nocell _ _ _)) (away _ hsz) ⟨hco, .inl ⟨rfl, pos, hc⟩⟩
  | none =>
    refine PySem.W.kla_makeFunction (mg := X.mg) (c := c) (P := P) (ps := ps) (closure_ok hfree) I.ok.glob (I.mod.glob.keeps I.bk) hcode (TB.code.keeps I.bk) hT ht hc TB.gP hb fun c' ctv h' tk kx hge hlt hrec htb => ?_
    obtain ⟨c2, oc, vs, t, e2, hoc, hd, hv⟩ := hrec
    cases e2
    have nC : H c' = none := I.hok.fresh hge
    have hsz : s.heap.objs.size ≤ h'.objs.size := Nat.le_trans hge (Nat.le_of_lt hlt)
    have I1 := inv_table (q := X.env.qual ++ "<lambda>") (t' := tk) (more := #[rawInt pos.line, rawInt pos.col, .ref c']) (h' := h'.push (lamO X params body scope ((X.mg "__name__").getD .none) c' ctv)) I hP
      (fun b o nb e => Heap.get?_push_of_some _ (kx b o nb e)) (Heap.get?_push_of_some _ htb) hge ⟨oc, vs, t, Heap.get?_push_of_some _ hoc, hd, hv⟩
    have I2 : Inv X ((h'.objs.size, lamO X params body scope ((X.mg "__name__").getD .none) c' ctv) :: pins) σ (upd (upd H P (.tbl (ps ++ #[rawInt pos.line, rawInt pos.col, .ref c']))) c' (CodeO c' (X.env.qual ++ "<lambda>"))) { s with heap := h'.push (lamO X params body scope ((X.mg "__name__").getD .none) c' ctv), toks := tk } := by
      refine I1.pins_of fun p hp => ?_
      rcases List.mem_cons.mp hp with e | e
      · subst e
        refine ⟨Heap.get?_push_size _ rfl, ?_, Nat.ne_of_gt (Nat.lt_of_lt_of_le I.lt hsz), I.nofs hsz, nocell _ _ _⟩
        show upd (upd H P _) c' _ h'.objs.size = none
        rw [upd_ne (Nat.ne_of_gt hlt), upd_ne (Nat.ne_of_gt (Nat.lt_of_lt_of_le (Heap.lt_size hT) hsz))]
        exact I.hok.fresh hsz
      · exact I1.pin p (List.mem_append_right _ e)
    refine h h'.objs.size c' _ ctv _ _ I2 (away _ hsz) ⟨upd_same, .inr ⟨nC, #[rawInt pos.line, rawInt pos.col, .ref c'], rfl, ?_, fun p' cv hcv => ?_⟩⟩
    · rw [show (ps ++ #[rawInt pos.line, rawInt pos.col, .ref c']).toList = ps.toList ++ [rawInt pos.line, rawInt pos.col, .ref c'] by simp]
      exact PySem.TriplesOk_snoc _ _ _ _ ht
    · rw [show (ps ++ #[rawInt pos.line, rawInt pos.col, .ref c']).toList = ps.toList ++ [rawInt pos.line, rawInt pos.col, .ref c'] by simp] at hcv
      exact among_app _ ht hcv
/-- the memory tells of the table as before -/
theorem Rep.tabled (R : Rep X B E σ H r M O) {P c' : Addr} {q : Str} {ps : Array Value} {H1 : Hp} (em : M P = some (.tab q)) (hP : H P = some (.tbl ps)) (ht : TriplesOk ps.toList) (old : ∀ pos cv, codeAmong pos ps.toList = some cv → ∃ c, cv = .ref c ∧ H c = some (CodeO c q) ∧ ¬ Av B M O c) (t : Tabled H P q ps c' H1) :
    Rep X B E σ H1 r M O ∧ Step (Mut M O) H (Mut M O) H1 ∧ ¬ Av B M O c' := by
  rcases t.how with ⟨e, pos, hc⟩ | ⟨nC, more, e, ht', am⟩
  · obtain ⟨c2, e2, _, n⟩ := old pos _ hc
    cases e2
    rw [e]
    exact ⟨R, Step.refl _ _, n⟩
  · have nav : ¬ Av B M O c' := R.m.fresh nC
    have nPc : P ≠ c' := fun z => by rw [z] at hP; rw [nC] at hP; cases hP
    have muP : Mut M O P := .inl (by rw [em]; simp)
    have at_ : ∀ b o, b ≠ P → H b = some o → H1 b = some o := fun b o nb eb => by
      rw [e, upd_ne (ne_of_none eb nC), upd_ne nb]
      exact eb
    have atP : H1 P = some (.tbl (ps ++ more)) := by rw [e, upd_ne nPc, upd_same]
    have sU : Step (Mut M O) H (Mut M O) H1 := fun b o eb nb => ⟨at_ b o (fun z => nb (by rw [z]; exact muP)) eb, nb⟩
    have sA : Step (Av B M O) H (Av B M O) H1 := fun b o eb nb => ⟨at_ b o (fun z => nb (by rw [z]; exact .inr muP)) eb, nb⟩
    have any : ∀ b, H b ≠ none → H1 b ≠ none := fun b nb => by
      by_cases hb : b = P
      · rw [hb, atP]; simp
      · cases eb : H b with
        | none => exact absurd eb nb
        | some o => rw [at_ b o hb eb]; simp
    have oP := (R.m.mem P _ em).2.1
    have keepO : ∀ l w, O l = some w → ∀ o, H l = some o → H1 l = some o := fun l w q o eo => at_ l o (fun z => by rw [z, oP] at q; cases q) eo
    refine ⟨⟨⟨fun b mo eb => ?_, fun b w eb => ⟨(R.m.own b w eb).1, any b (R.m.own b w eb).2⟩, fun b z => any b (R.m.btr b z)⟩, R.len, fun i x ex => (R.sl i x ex).stepS sA sU fun l q => ⟨q, keepO l _ q⟩, R.ent.trans sU, R.sub, R.exc, R.lk, R.xe⟩, sU, nav⟩
    obtain ⟨h1, h2, h3⟩ := R.m.mem b mo eb
    refine ⟨h1, h2, ?_⟩
    by_cases hb : b = P
    · rw [hb] at eb ⊢
      rw [em] at eb
      cases eb
      refine ⟨_, atP, ht', fun pos cv hcv => ?_⟩
      rcases am pos cv hcv with z | z
      · obtain ⟨c2, q1, q2, q3⟩ := old pos cv z
        exact ⟨c2, q1, (sA c2 _ q2 q3).1, q3⟩
      · exact ⟨c', z, t.co, nav⟩
    · exact h3.stepS sA (fun o eo => at_ b o hb eo) fun l f q => ⟨q, keepO l _ q⟩
end
/-- the slots that it may read -/
def lam1 : Sl → Sl
  | .v d => .v d
  | _ => .n
def lamS : List Sl → List Sl
  | [] => []
  | x :: r => lam1 x :: lamS r
theorem lamS_map : ∀ sl : List Sl, lamS sl = sl.map lam1
  | [] => rfl
  | x :: r => congrArg (lam1 x :: ·) (lamS_map r)
theorem lamS_get {sl : List Sl} {i : Nat} {x : Sl} (h : (lamS sl)[i]? = some x) : x = .n ∨ ∃ d, x = .v d ∧ sl[i]? = some (.v d) := by
  rw [lamS_map, List.getElem?_map] at h
  cases e : sl[i]? with
  | none => rw [e] at h; cases h
  | some y =>
    rw [e] at h
    cases y <;> cases h <;> first | exact .inl rfl | exact .inr ⟨_, rfl, rfl⟩
/-- its reading at the maker's frame -/
def gLamT (gb : GE) (r : DL.Fr) (M : Mem) (Q : D → Mem → Prop) (X : Addr → Mem → Prop) : Prop := ∃ Xd : Addr → Mem → Prop, (∀ C M', Xd C M' → X C M') ∧ gb ⟨lamS r.sl, Xd⟩ M Q
theorem gLamT_mono {gb : GE} (h : ∀ r M Q Q', (∀ d M', Q d M' → Q' d M') → gb r M Q → gb r M Q') (r : DL.Fr) : MonoT (gLamT gb r) := fun M Q Q' X X' hq hx ⟨Xd, l, q⟩ => ⟨Xd, fun C M' z => hx _ _ (l _ _ z), h _ _ _ _ hq q⟩
/-- where its body is reckoned -/
def lamTb (K : PySem.W.Frag) (σ : L2.St) (sl : List Sl) (gb : GE) (Ex : XK) (H : Hp) (Q : VK) : Prop := ∃ (B : Addr → Prop) (M : Mem) (O : Own) (Qd : D → Mem → Prop) (Xd : Addr → Mem → Prop), MemOk K B H M O ∧ Flds O ∧ (∀ i x, (lamS sl)[i]? = some x → SlOk K B H M O i ((σ[i]?).getD none) x) ∧ gb ⟨lamS sl, Xd⟩ M Qd ∧
  (∀ d M' v H' O', Qd d M' → MemOk K B H' M' O' → Flds O' → Step (Mut M O) H (Mut M' O') H' → Is K (Av B M' O') H' v d → Q v H') ∧ (∀ C M' H' O', Xd C M' → MemOk K B H' M' O' → Flds O' → Step (Mut M O) H (Mut M' O') H' → Ex (.ref C) none H')
theorem lam_body {X : Cx} {σ : L2.St} {sl : List Sl} {gb : GE} {body : Expr} {Ex : XK} {A : Around} {outer : List Env} {s : Shared} {H : Hp} {scope : Scope} {f c' : Addr} (hl : σ.length = sl.length) (hb : DE true false (lamCx X A outer s H Ex scope f c') body gb) :
    PE (lamCx X A outer s H Ex scope f c') body (fun σ' H Q => σ' = σ ∧ lamTb X.K σ sl gb Ex H Q) := by
  refine peI hb.run fun σ' H1 Q ⟨es, B, M, O, Qd, Xd, hm, hO, hs, q, h1, h2⟩ => ?_
  subst es
  refine ⟨B, ⟨B, H1, Mut M O, Xd, fun C H' => Ex (.ref C) none H'⟩, ⟨lamS sl, Xd⟩, M, O, ⟨hm, ?_, hs, Step.refl _ _, fun _ z => z, fun C M' H' O' a1 a2 a3 => ?_, ?_, rfl⟩, hb.mono _ _ _ _ (fun d M' k v H' O' R' l i => ?_) q⟩
  · show σ'.length = (lamS sl).length
    rw [lamS_map, List.length_map]
    exact hl
  · exact h2 C M' H' (drops O') a3 a1.drops (drops_flds _) (a2.trans (step_id fun b _ n z => n (mut_drops b z)))
  · exact (takes_of rfl rfl rfl rfl).imp fun cls d σ H h => by
      obtain ⟨C, e1, e2, h⟩ := h
      subst e1; subst e2
      exact h
  · exact h1 d M' v H' (drops O') k R'.m.drops (drops_flds _) (l.2.trans (step_id fun b _ n z => n (mut_drops b z))) (i.step (step_id fun b _ n z => n (z.elim .inl fun z => .inr (mut_drops b z))))
/-- the call of the lambda, from the def that got it -/
theorem lam_act {X : Cx} {pins : List (Addr × Obj)} {σ : L2.St} {H : Hp} {s : Shared} {sl : List Sl} {gb : GE} {f c' g : Addr} {Ng : List Str} {qg q : Str} {sg : Scope} {cdg pm ctv : Value} {params : Arguments} {body : Expr} {scope : Scope} {k : Nat} {Eg : XK}
    (I : Inv X pins σ H s) (L : LamS X.env.scope scope) (hf : s.heap.get? f = some (lamO X params body scope pm c' ctv)) (hfn : H f = none) (hfr : f ∉ frs X.stack) (hq : X.env.qual ++ "<lambda>" = q) (hl : σ.length = sl.length)
    (hbind : bindArgs (PySem.W.kla_fn "<lambda>" (X.env.qual ++ "<lambda>") params body scope (cloFrom X.env.cells scope.names []) pm (.ref c') ctv) ⟨[], []⟩ = pure []) (hgd : X.A.guards = some []) (hr : Room (k + 1) (X.A.deeper (envOfC qg sg s.heap.objs.size g cdg)))
    (hbody : ∀ (A : Around) (outer : List Env) (s : Shared) (H : Hp) (Ex : XK), Room k (A.deeper (lamEnv X scope s.heap.objs.size f c')) → A.guards = some [] → DE true false (lamCx X A outer s H Ex scope f c') body gb) :
    LamAct (cxOf (L2.CX X.prog X.w) X.prog X.w X.K X.mg X.base Ng qg sg g cdg X.A X.stack s H Eg) f (fun Ex HZ Q => HZ c' = some (CodeO c' q) ∧ lamTb X.K σ sl gb Ex HZ Q) := by
  subst hq
  intro pn xe pinsZ sZ σZ HZ Q Ex IZ ⟨hc, ht⟩ hx
  have of1 : sZ.heap.get? f = some (lamO X params body scope pm c' ctv) := IZ.base.keep f _ hf hfn hfr fun z => nomatch (show f ∈ ([] : List Addr) from z)
  have un : Un (frs X.stack) [] H HZ s.heap sZ.heap := IZ.base
  obtain ⟨⟨oc, vs, t, hoc, hdc, hvc⟩, _, _⟩ := IZ.hok c' _ hc
  refine ⟨⟨_, _, _, _, of1⟩, ?_⟩
  have rc : codeAny (model X.prog X.w) (X.A.deeper (envOfC qg sg s.heap.objs.size g cdg)) (.call (.ref f) ⟨[], []⟩) (CR (L2.CX X.prog X.w) (envOfC qg sg s.heap.objs.size g cdg :: X.stack) X.prog X.w HZ sZ Q Ex) sZ := by
    refine PySem.W.kla_callFunE hr.depth of1 rfl L.co L.gen rfl ⟨c', oc, vs, t, rfl, hoc, hdc, hvc⟩ ?_
    rw [hbind]
    refine wpAny_pure (wpAny_newFunctionEnv (fun y hy => (L.own y hy).2) (fun y hy => (List.not_mem_nil hy).elim) (fun h1 hns hsb => ⟨IZ.nolimit.fresh _ hsb, ?_⟩) L.kind)
    have kp : ∀ b o, sZ.heap.get? b = some o → h1.get? b = some o := fun b o e => hsb.extBut b o (Nat.ne_of_lt (Heap.lt_size e)) (Heap.get?_push_of_some _ e)
    have J : Inv (lamCx X (X.A.deeper (envOfC qg sg s.heap.objs.size g cdg)) (envOfC qg sg s.heap.objs.size g cdg :: X.stack) sZ HZ Ex scope f c') [] σ HZ { sZ with heap := h1, toks := sZ.toks + ([] : List (Str × Value)).length } :=
      lam_start2 I L IZ.env0 hr.hd un hns kp
    show codeAny _ _ (.expr body (lamEnv X scope sZ.heap.objs.size f c')) _ _
    refine PySem.W.kla_codeExpr (wpAny_mono ((lam_body hl (hbody _ _ sZ HZ Ex (hr.deeper _) hgd)).run [] _ _ HZ Q J ⟨rfl, ht⟩) (fun v s' hq => ?_) fun e s' hq => hq)
    obtain ⟨w', H', J', rv, q⟩ := hq
    exact ⟨w', H', J'.os, J'.bare, J'.base, J'.hok, rv, q⟩
  refine wpAny_call (codeAny_mono rc fun r s' hq => ?_)
  cases r with
  | error e => exact hx e s' hq
  | ok fl =>
    cases fl with
    | ret u => exact IZ.after hq
    | next => exact hq.elim
    | brk => exact hq.elim
    | cont => exact hq.elim
/-- what the lambda promises -/
theorem lam_pr {K : PySem.W.Frag} {B : Addr → Prop} {M : Mem} {O : Own} {H : Hp} {σ : L2.St} {r : DL.Fr} {gb : GE} {c' : Addr} {q : Str} (hs : ∀ i x, r.sl[i]? = some x → SlOk K B H M O i ((σ[i]?).getD none) x) (hc : H c' = some (CodeO c' q)) (nc : ¬ Av B M O c')
    (hg : ∀ r M Q Q', (∀ d M', Q d M' → Q' d M') → gb r M Q → gb r M Q') :
    LamPr K (Av B M O) H (gLamT gb r) (fun Ex HZ Q => HZ c' = some (CodeO c' q) ∧ lamTb K σ r.sl gb Ex HZ Q) := by
  intro B2 M2 O2 H2 Qd Xd Q Ex hm hO st ⟨Xe, l, qb⟩ h1 h2
  refine ⟨(st c' _ hc nc).1, B2, M2, O2, Qd, Xe, hm, hO, fun i x e => ?_, qb, h1, fun C M' H' O' z => h2 C M' H' O' (l _ _ z)⟩
  rcases lamS_get e with rfl | ⟨d, rfl, e2⟩
  · trivial
  · obtain ⟨v, e3, e4⟩ := hs i _ e2
    exact ⟨v, e3, e4.step st⟩
structure FnL (P : Program) (w : World) (K : PySem.W.Frag) (mg : Str → Option Value) (base : Heap) (k : Nat) (g : Addr) (N : List Str) (qual : Str) (sc : Scope) (cdv : Value) (ks : List AK) (fs : LmT → FS) : Prop where
  run : ∀ (A : Around) (outer : List Env) (s : Shared) (H : Hp) (lm : Lm) (sp : LSp) (us : List Value) (vs : List V) (B : Addr → Prop) (M : Mem) (O : Own) (ds : List D) (Q : VK) (Ex : XK), Room k A → A.guards = some [] → Env0 P w K mg base A outer s H → Vals vs us → us.length = ks.length →
    MemOk K B H M O → Flds O → ArgsOk K (Av B M O) (Mut M O) H ks vs ds → lm.U = Av B M O → lm.H = H → MonoT lm.tl → LamPr K lm.U lm.H lm.tl sp → LamAct (cxOf (L2.CX P w) P w K mg base N qual sc g cdv A outer s H Ex) lm.f sp →
    fs lm.tl ds M (fun d M' => ∀ v H' O', MemOk K B H' M' O' → Flds O' → Step (Mut M O) H (Mut M' O') H' → Is K (Av B M' O') H' v d → Q v H') (fun C M' => ∀ H' O', MemOk K B H' M' O' → Flds O' → Step (Mut M O) H (Mut M' O') H' → Ex (.ref C) none H') →
    codeAny (model P w) A (.call (.ref g) ⟨.ref lm.f :: us, []⟩) (CR (L2.CX P w) outer P w H s Q Ex) s
def entryL (n : Nat) (lm : Lm) (ks : List AK) (ds : List D) (X : Addr → Mem → Prop) : DL.Fr := ⟨.f lm :: aSls ks ds ++ List.replicate (n - 1 - ks.length) .n, X⟩
section
variable {P : Program} {w : World} {K : PySem.W.Frag} {mg : Str → Option Value} {base : Heap} {k : Nat} {f : Addr} {fd : FuncData} {a : Str} {ps : List Str} {fs : LmT → FS} {ks : List AK}
theorem d_fnL {x qual : Str} {st : Stmt} {N : List Str} {g : Lm → GS} {cdv : Value} {kV doc pm ct oc : Value} {an od : Option Addr} {osl : Array (Option Value)} (lk : K.lookup f = some ⟨oc, od, .func (PySem.W.fnOf x qual (defArgs st) (defBody st) (defScope st) .none kV doc pm an cdv ct), osl⟩) (hcd : PySem.W.codeIn K cdv qual = true)
    (hb : L2.Binds K (PySem.W.fnOf x qual (defArgs st) (defBody st) (defScope st) .none kV doc pm an cdv ct) (a :: ps) []) (S : FnScope N (a :: ps) (defScope st)) (hk : ks.length = ps.length)
    (hbody : ∀ (A : Around) (outer : List Env) (s : Shared) (H : Hp) (Ex : XK) (lm : Lm) (sp : LSp), Room k (A.deeper (envOfC qual (defScope st) s.heap.objs.size f cdv)) → A.guards = some [] → MonoT lm.tl → LamPr K lm.U lm.H lm.tl sp → LamAct (cxOf (L2.CX P w) P w K mg base N qual (defScope st) f cdv A outer s H Ex) lm.f sp →
      DSs (cxOf (L2.CX P w) P w K mg base N qual (defScope st) f cdv A outer s H Ex) (defBody st) (g lm))
    (hfs : ∀ lm ds M Q X, MonoT lm.tl → fs lm.tl ds M Q X → ds.length = ks.length → g lm { nx := fun _ M' => Q .non M', rt := Q } (entryL N.length lm ks ds X) M) : FnL P w K mg base (k + 1) f N qual (defScope st) cdv ks fs := by
  refine ⟨fun A outer s H lm sp us vs B M O ds Q Ex hr hgd e0 rv hul hm hO ha eU eH hmt hp act hq => ?_⟩
  have kIn : K.In s.heap := e0.mod.kin.keeps fun b o e => (e0.bs b o e).1
  refine run_ofS (N := N) (ps := a :: ps) (us := .ref lm.f :: us) (vs := .ref lm.f :: vs) lk hcd S hr e0 ?_ (.cons rfl rv) (by rw [List.length_cons, List.length_cons, rv.length, hul, hk]) fun hr' => ?_
  · have := hb s (.ref lm.f :: us) kIn (by rw [List.append_nil, List.length_cons, List.length_cons, hul, hk])
    rw [List.append_nil] at this
    exact this
  · have hd := hbody A outer s H Ex lm sp hr' hgd hmt hp act
    refine ⟨_, hd.run, B, ⟨B, H, Mut M O, fun C M' => ∀ H' O', MemOk K B H' M' O' → Flds O' → Step (Mut M O) H (Mut M' O') H' → Ex (.ref C) none H', fun C H' => Ex (.ref C) none H'⟩, entryL N.length lm ks ds _, M, O, ⟨hm, ?_, fun i x e => ?_, Step.refl _ _, fun _ z => z, fun C M' H' O' h1 h2 h3 => h3 H' (drops O') h1.drops (drops_flds _) (h2.trans (step_id fun b _ n z => n (mut_drops b z))), ?_, rfl⟩, ?_⟩
    · show (L2.start N (.ref lm.f :: vs)).length = (Sl.f lm :: aSls ks ds ++ List.replicate (N.length - 1 - ks.length) Sl.n).length
      unfold L2.start
      rw [List.length_append, List.length_append, List.length_map, List.length_replicate, List.length_replicate, List.length_cons, List.length_cons, (argSls ha).1, ha.len]
      omega
    · have e : (Sl.f lm :: aSls ks ds ++ List.replicate (N.length - 1 - ks.length) Sl.n)[i]? = some x := e
      cases i with
      | zero =>
        cases e
        exact ⟨rfl, by rw [eU, eH]; exact Step.refl _ _⟩
      | succ i =>
        have e : (aSls ks ds ++ List.replicate (N.length - 1 - ks.length) Sl.n)[i]? = some x := e
        by_cases hi : i < (aSls ks ds).length
        · rw [List.getElem?_append_left hi] at e
          obtain ⟨v, hv, q⟩ := (argSls ha).2 i x e
          have e2 : (L2.start N (.ref lm.f :: vs))[i + 1]? = some (some v) := by
            unfold L2.start
            rw [List.getElem?_append_left (by rw [List.length_map, List.length_cons, ← (argSls ha).1]; omega), List.getElem?_map, List.getElem?_cons_succ, hv]
            rfl
          rw [e2]
          exact q (i + 1)
        · rw [List.getElem?_append_right (by omega), List.getElem?_replicate] at e
          split at e
          · cases e
            trivial
          · cases e
    · exact (takes_of rfl rfl rfl rfl).imp fun cls d σ H h => by
        obtain ⟨C, e1, e2, h⟩ := h
        subst e1; subst e2
        exact h
    · refine hd.mono { nx := fun _ M' => (fun d M' => ∀ v H' O', MemOk K B H' M' O' → Flds O' → Step (Mut M O) H (Mut M' O') H' → Is K (Av B M' O') H' v d → Q v H') .non M', rt := fun d M' => ∀ v H' O', MemOk K B H' M' O' → Flds O' → Step (Mut M O) H (Mut M' O') H' → Is K (Av B M' O') H' v d → Q v H' } _ _ _ ⟨fun r' M' q σ' H' O' R' => ?_, fun d M' q v H' O' h1 h2 h3 => ?_, fun _ _ z => z.elim, fun _ _ z => z.elim⟩ (hfs lm ds M _ _ hmt hq ha.len2)
      · exact q .non H' (drops O') R'.m.drops (drops_flds _) (R'.ent.trans (step_id fun b _ n z => n (mut_drops b z))) .non
      · exact q v H' (drops O') h1.drops (drops_flds _) (h2.trans (step_id fun b _ n z => n (mut_drops b z))) (h3.step (step_id fun b _ n z => n (z.elim .inl fun z => .inr (mut_drops b z))))
end
theorem roomDown {j k : Nat} {A : Around} (r : Room k A) (h : j ≤ k) : Room j A := r.mono h
/-- a def that is handed a lambda first, by its name -/
structure DefL (P : Program) (w : World) (K : PySem.W.Frag) (mg : Str → Option Value) (base : Heap) (n : Nat) (x : Str) (a : Str) (ks : List AK) (fs : LmT → FS) : Prop where
  ex : ∃ f N qual sc cdv, FnL P w K mg base n f N qual sc cdv ks fs ∧ mg x = some (.ref f) ∧ PySem.W.keepIn K (.ref f) = true
  mo : ∀ tl, MonoT tl → MonoF (fs tl)
theorem DefL.mono {P : Program} {w : World} {K : PySem.W.Frag} {mg : Str → Option Value} {base : Heap} {j n : Nat} {x a : Str} {ks : List AK} {fs : LmT → FS} (D : DefL P w K mg base j x a ks fs) (h : j ≤ n := by decide) : DefL P w K mg base n x a ks fs :=
  let ⟨f, N, qual, sc, cdv, F, q⟩ := D.ex
  ⟨⟨f, N, qual, sc, cdv, ⟨fun A outer s H lm sp us vs B M O ds Q Ex hr => F.run A outer s H lm sp us vs B M O ds Q Ex (roomDown hr h)⟩, q⟩, D.mo⟩
section
variable {X : Cx} {es : List Expr} {gs : GA} {gb : GE} {n : Nat} {x a : Str} {ks : List AK} {fs : LmT → FS} {pf lpos pos : Pos} {params : Arguments} {body : Expr} {scope : Scope} {q : Str} {c P : Addr}
/-- x(lambda: body, ..) -/
def gCallL (P : Addr) (q : Str) (fs : LmT → FS) (gb : GE) (gs : GA) : GE := fun r M Q => M P = some (.tab q) ∧ gs r M fun ds M1 => fs (gLamT gb r) ds M1 Q r.ex
end
end DL
set_option Elab.async false
set_option linter.all false
set_option maxRecDepth 100000
set_option maxHeartbeats 2000000
namespace DL
open PySem PySem.Spec PySem.W PyProof.Rows L2 LamX
section
variable {fa : List He.Fa} {fn : List He.DefD} {ts : List He.Tab} {cs : List Ck} {w : World} {K : PySem.W.Frag} {mg : Str → Option Value} {P : Program} {base : Heap} {k : Nat} {ks : List AK}
/-- the tables of those that make lambdas, at a base -/
def TBs (K : PySem.W.Frag) (mg : Str → Option Value) (base : Heap) (xs : List Str) : Prop := ∀ x ∈ xs, TabB base mg (tC K x) (tP K x)
theorem WorC.cod (W : WorC fa fn ts cs w K mg) (i : Nat) {xs : List Str} (h : cs[i]? = some (.cods xs) := by rfl) : (∀ x ∈ xs, tabIn K x = some (tC K x, tP K x) ∧ K.lookup (tP K x) = none) ∧ (xs.map (tP K)).Nodup := by
  have c : (xs.all (fun x => (tabIn K x).isSome && (K.lookup (tP K x)).isNone) && decide (xs.map (tP K)).Nodup) = true := W.ck i h
  rw [Bool.and_eq_true, List.all_eq_true, decide_eq_true_eq] at c
  refine ⟨fun x hx => ?_, c.2⟩
  have d := c.1 x hx
  rw [Bool.and_eq_true] at d
  refine ⟨?_, by simpa using d.2⟩
  unfold tC tP
  cases e : tabIn K x with
  | none => rw [e] at d; exact nomatch d.1
  | some p => rfl
theorem tab_code {x qual : Str} {st : Stmt} {f c P : Addr} {fd : FuncData} (F : Fun K x qual st f fd) (hf : f = He.ga K x) (ht : tabIn K x = some (c, P)) : fd.code = .ref c := by
  obtain ⟨oc, od, kV, doc, pm, an, cdv, ct, osl, rfl, lk, hcd⟩ := F.ex
  unfold tabIn at ht
  split at ht
  · rename_i g hg
    have e : He.ga K x = g := by unfold He.ga; rw [hg]
    rw [hf, e] at lk
    rw [lk] at ht
    dsimp only at ht
    split at ht
    · split at ht
      · split at ht
        · cases ht
          rfl
        · cases ht
      · cases ht
    · cases ht
  · cases ht
theorem WorC.defT_ {fs : FS} {N ps : List Str} {g : GS} (W : WorC fa fn ts cs w K mg) (i : Nat) {x : Str} {st : Stmt}
    (S : FnScope N ps (defScope st)) (h : fn[i]? = some ⟨(x, none), x, x, defArgs st, defBody st, defScope st, [], []⟩ := by rfl) (h2 : fa[i]? = some (.glo x) := by rfl) (hk : ks.length = ps.length := by rfl)
    (hbd : ∀ (kV doc pm : Value) (an : Option Addr) (cdv ct : Value) (us : List Value), us.length = ps.length → bindArgs (PySem.W.fnOf x x (defArgs st) (defBody st) (defScope st) .none kV doc pm an cdv ct) ⟨us, []⟩ = pure (ps.zip us))
    (hmo : MonoF fs)
    (hbody : ∀ (f : Addr) (cdv : Value) (hcd : tabIn K x = some (tC K x, tP K x) → cdv = .ref (tC K x)) (A : Around) (outer : List Env) (s : Shared) (H : Hp) (E : XK), Room k (A.deeper (envOfC x (defScope st) s.heap.objs.size f cdv)) → A.guards = some [] →
      DSs (cxOf (L2.CX P w) P w K mg base N x (defScope st) f cdv A outer s H E) (defBody st) g)
    (hfs : ∀ ds M Q X, fs ds M Q X → ds.length = ks.length → g { nx := fun _ M' => Q .non M', rt := Q } (entry N.length ks ds X) M) : Def P w K mg base (k + 1) x ps ks fs := by
  obtain ⟨fd, F⟩ := W.c.def_ i h
  have hx := W.glo i h2
  have F1 : Fun K x x st (He.ga K x) fd := He5.fun_of F
  exact ⟨⟨_, fd, d_fnC F1 S hk (fun cdv e => hbody (He.ga K x) cdv fun ht => by rw [← e]; exact tab_code F1 rfl ht) hfs, hx, F1.kp, F1.binds hbd⟩, hmo⟩
theorem WorC.defL_ {fs : LmT → FS} {N ps : List Str} {a : Str} {g : Lm → GS} (W : WorC fa fn ts cs w K mg) (i : Nat) {x : Str} {st : Stmt}
    (S : FnScope N (a :: ps) (defScope st)) (h : fn[i]? = some ⟨(x, none), x, x, defArgs st, defBody st, defScope st, [], []⟩ := by rfl) (h2 : fa[i]? = some (.glo x) := by rfl) (hk : ks.length = ps.length := by rfl)
    (hbd : ∀ (kV doc pm : Value) (an : Option Addr) (cdv ct : Value) (us : List Value), us.length = (a :: ps).length → bindArgs (PySem.W.fnOf x x (defArgs st) (defBody st) (defScope st) .none kV doc pm an cdv ct) ⟨us, []⟩ = pure ((a :: ps).zip us))
    (hmo : ∀ tl, MonoT tl → MonoF (fs tl))
    (hbody : ∀ (f : Addr) (cdv : Value) (A : Around) (outer : List Env) (s : Shared) (H : Hp) (E : XK) (lm : Lm) (sp : LSp), Room k (A.deeper (envOfC x (defScope st) s.heap.objs.size f cdv)) → A.guards = some [] → MonoT lm.tl → LamPr K lm.U lm.H lm.tl sp → LamAct (cxOf (L2.CX P w) P w K mg base N x (defScope st) f cdv A outer s H E) lm.f sp →
      DSs (cxOf (L2.CX P w) P w K mg base N x (defScope st) f cdv A outer s H E) (defBody st) (g lm))
    (hfs : ∀ lm ds M Q X, MonoT lm.tl → fs lm.tl ds M Q X → ds.length = ks.length → g lm { nx := fun _ M' => Q .non M', rt := Q } (entryL N.length lm ks ds X) M) : DefL P w K mg base (k + 1) x a ks fs := by
  obtain ⟨fd, F⟩ := W.c.def_ i h
  have hx := W.glo i h2
  have F1 : Fun K x x st (He.ga K x) fd := He5.fun_of F
  have hb := F1.binds hbd
  obtain ⟨oc, od, kV, doc, pm, an, cdv, ct, osl, rfl, lk, hcd⟩ := F1.ex
  exact ⟨⟨He.ga K x, N, x, _, cdv, d_fnL lk hcd hb S hk (fun A outer s H E lm sp => hbody (He.ga K x) cdv A outer s H E lm sp) hfs, hx, F1.kp⟩, hmo⟩
end
end DL
set_option Elab.async false
set_option linter.all false
set_option maxRecDepth 100000
set_option maxHeartbeats 2000000
namespace DL
open PySem PySem.Spec PySem.W PyProof.Rows L2 LamX
/-- only the script and the tables at ps are tracked -/
def OnlyT (ps : List Addr) (H : Hp) : Prop := ∀ b, (b ∈ ps → H b = some (.tbl #[])) ∧ (b ∉ ps → H b = none ∨ ∃ o xs, H b = some (.frz o (.lst xs)))
abbrev tab0 : Obj := { cls := .none, data := .fields #[] }
/-- the memory at the law's entry: the tables -/
def lq (x : Str) : Str := (x ++ ".<locals>.") ++ "<lambda>"
def MT (K : PySem.W.Frag) (xs : List Str) : Mem := fun b => (xs.find? fun x => decide (tP K x = b)).map fun x => .tab (lq x)
theorem MT_at {K : PySem.W.Frag} : ∀ {xs : List Str}, (xs.map (tP K)).Nodup → ∀ {x : Str}, x ∈ xs → MT K xs (tP K x) = some (.tab (lq x))
  | y :: ys, hn, x, hx => by
    unfold MT
    rw [List.find?_cons]
    rw [List.map_cons, List.nodup_cons] at hn
    rcases List.mem_cons.mp hx with rfl | hx
    · rw [decide_eq_true rfl]
      rfl
    · rw [decide_eq_false fun z => hn.1 (List.mem_map.mpr ⟨x, hx, z.symm⟩)]
      exact MT_at hn.2 hx
theorem MT_some {K : PySem.W.Frag} {xs : List Str} {b : Addr} {mo : MO} (h : MT K xs b = some mo) : b ∈ xs.map (tP K) ∧ ∃ q, mo = .tab q := by
  unfold MT at h
  rw [Option.map_eq_some_iff] at h
  obtain ⟨x, h1, h2⟩ := h
  have := List.find?_some h1
  exact ⟨List.mem_map.mpr ⟨x, List.mem_of_find?_eq_some h1, of_decide_eq_true this⟩, _, h2.symm⟩
theorem only_scrT {K : PySem.W.Frag} {H : Hp} {a : Addr} {ns : List Int} {fs : FS} {xs : List Str} (hO : OnlyT (xs.map (tP K)) H) (hS : SqL K H a (ns.map V.int))
    (h : fs [.lst (ns.map D.int)] (MT K xs) (fun d _ => d = .bl true) fun _ _ => False) (hm : MonoF fs) : toSp K [.s] fs [.ref a] H (fun v _ => v = .bl true) fun _ _ _ => False := by
  have hM : ∀ b, Mut (MT K xs) O0 b → b ∈ xs.map (tP K) := fun b z => by
    rcases z with z | z
    · cases e : MT K xs b with
      | none => exact absurd e z
      | some mo => exact (MT_some e).1
    · exact absurd rfl z
  refine ⟨fun _ => False, MT K xs, O0, [.lst (ns.map D.int)], ⟨fun b mo e => ?_, fun a w e => (nomatch e), fun a z => z.elim⟩, fun a i z => (nomatch z), ⟨⟨a, ns, rfl, rfl, ?_⟩, trivial⟩, ?_⟩
  · obtain ⟨hb, q, rfl⟩ := MT_some e
    refine ⟨fun z => z.elim, rfl, #[], (hO b).1 hb, True.intro, fun pos cv hc => ?_⟩
    have z : codeAmong pos [] = some cv := hc
    simp [codeAmong] at z
  · rcases hS with h | h
    · refine .inl ⟨fun z => ?_, h⟩
      have e := (hO a).1 (hM a z)
      rcases h with h | ⟨o, h⟩
      · rw [e] at h; cases h
      · rw [e] at h; cases h
    · exact .inr (.inr h)
  · refine hm _ _ _ _ _ _ (fun d M' e v H' O' _ _ _ i => ?_) (fun C M' z => z.elim) h
    subst e
    cases i
    rfl
end DL
set_option Elab.async false
set_option linter.all false
set_option maxRecDepth 100000
set_option maxHeartbeats 2000000
namespace DL
open PySem PySem.Spec PySem.W PyProof.Rows L2
section
variable {X : Cx} {w p : Bool} {e : Expr} {ga : GE} {B : Addr → Prop} {E : En} {σ : L2.St} {H : Hp} {r : Fr} {M : Mem} {O : Own} {pf apos cpos pos tpos : Pos} {M1 : Mem} {O1 : Own} {H1 : Hp}
/-- a key and its value -/
def kvD (q : Key × D) : D := .tup [kD q.1, q.2]
def gItemsT (ga : GE) : GE := fun r M Q => ga r M fun d M1 => dicK d fun kds => Q (.tup (kds.map kvD)) M1
def gFvals (ga : GE) : GF := fun r M Q => ga r M fun d M1 => dicK d fun kds => Q (.lst (kds.map Prod.snd)) M1
def giItems (ga : GE) : GI := fun r M Q => ga r M fun d M1 => dicK d fun kds => Q (kds.map kvD) M1
end
end DL
set_option Elab.async false
set_option linter.all false
set_option maxRecDepth 100000
set_option maxHeartbeats 2000000
namespace DL
open PySem PySem.Spec PySem.W PyProof.Rows L2
section
variable {X : Cx} {B : Addr → Prop} {E : En} {σ : L2.St} {H H' : Hp} {r : DL.Fr} {M M' : Mem} {O O' : Own} {p w : Bool} {ks : List AK}
variable {e : Expr} {es : List Expr} {gs : GA} {n : Nat} {a : PySem.Str} {pf pos : Pos} {tbl : List (Addr × FS)}
/-- x(..) of a def that changes nothing, x a slot -/
def gxV (i : Nat) (tbl : List (Addr × FS)) (gs : GA) : GX := fun r M Q Xc => ∃ f fs, r.sl[i]? = some (.v (.ref f)) ∧ (f, fs) ∈ tbl ∧ gs r M fun ds M1 => fs ds M0 (fun d _ => Q d M1) fun C _ => Xc C M1
end
def strsOf : List (Key × D) → Option (List PySem.Str)
  | [] => some []
  | (.inr x, _) :: r => (strsOf r).map (x :: ·)
  | _ => none
def sortDK (d : D) (k : List D → Prop) : Prop := match d with
  | .dic kds => kds.length < 64 ∧ ∃ ks, strsOf kds = some ks ∧ ∀ ys : List PySem.Str, ys.Perm ks → k (ys.map .str)
  | _ => False
theorem sortDK_dic {kds : List (Key × D)} {k : List D → Prop} : sortDK (.dic kds) k = (kds.length < 64 ∧ ∃ ks, strsOf kds = some ks ∧ ∀ ys : List PySem.Str, ys.Perm ks → k (ys.map .str)) := rfl
def gFsortD (ga : GE) : GF := fun r M Q => ga r M fun d M1 => sortDK d fun ds => Q (.lst ds) M1
end DL
set_option Elab.async false
set_option linter.all false
set_option maxRecDepth 100000
set_option maxHeartbeats 2000000
namespace DL
open PySem PySem.Spec PySem.W PyProof.Rows L2
theorem e_gSeq (g g' : GS) : ∀ D r M, gSeq g g' D r M = (g { D with nx := g' D } r M) := fun D r M => propext Iff.rfl
theorem e_gSet (i : Nat) (ge : GE) : ∀ D r M, gSet i ge D r M = (ge r M fun d M1 => D.nx (r.set i (.v d)) M1) := fun D r M => propext Iff.rfl
theorem e_gRet (ge : GE) : ∀ D r M, gRet ge D r M = (ge r M D.rt) := fun D r M => propext Iff.rfl
theorem e_gRetN : ∀ D u1 M, gRetN D u1 M = (D.rt .non M) := fun D u1 M => propext Iff.rfl
theorem e_gNext : ∀ D r M, gNext D r M = (D.nx r M) := fun D r M => propext Iff.rfl
theorem e_gIfS (c : GT) (g g' : GS) : ∀ D r M, gIfS c g g' D r M = (c r M fun b M1 => if b = true then g D r M1 else g' D r M1) := fun D r M => propext Iff.rfl
theorem e_gDrop (ge : GE) : ∀ D r M, gDrop ge D r M = (ge r M fun _ M1 => D.nx r M1) := fun D r M => propext Iff.rfl
theorem e_gOwn (i : Nat) (gf : GF) : ∀ D r M, gOwn i gf D r M = (gf r M fun m M1 => D.nx (r.set i (.o m)) M1) := fun D r M => propext Iff.rfl
theorem e_gApp (i : Nat) (ge : GE) : ∀ D r M, gApp i ge D r M = (match r.sl[i]? with
  | some (.o (.lst ds)) => ge r M fun d M1 => ds.length < sizeLine ∧ D.nx (r.set i (.o (.lst (ds ++ [d])))) M1
  | _ => False) := fun D r M => propext Iff.rfl
theorem e_gExt (i : Nat) (ge : GE) : ∀ D r M, gExt i ge D r M = (match r.sl[i]? with
  | some (.o (.lst ds)) => ge r M fun d M1 => match d with
    | .lst es => ds.length + es.length ≤ sizeLine ∧ D.nx (r.set i (.o (.lst (ds ++ es)))) M1
    | _ => False
  | _ => False) := fun D r M => propext Iff.rfl
theorem e_gForM (go : GE) (gt : GG) (gb : GS) : ∀ D r M, gForM go gt gb D r M = (go r M fun d M1 => mlK d M1 fun l ds => loopDM gt gb l ds ds D r M1) := fun D r M => propext Iff.rfl
theorem e_gLcM (go : GE) (gt : GG) (gtt : GT) (ge : GE) (vs : List Nat) : ∀ r M Q, gLcM go gt gtt ge vs r M Q = (noOwn r vs = true ∧ go r M fun d M1 => mlK d M1 fun l ds => lcDM l ds gt gtt ge (wipeF r vs) ds [] M1 fun acc M2 => Q (.lst acc) M2) := fun r M Q => propext Iff.rfl
theorem e_gCnt (ga gb : GE) : ∀ r M Q, gCnt ga gb r M Q = (ga r M fun d M1 => match d with
  | .lst ds => gb r M1 fun e M2 => (D.ok (.lst ds) = true ∧ e.ok = true) ∧ Q (.int (ds.countP fun z => z.eqv e : Nat)) M2
  | _ => False) := fun r M Q => propext Iff.rfl
theorem e_gTryV (jy jz jn : Nat) (tb : List (Addr × Bool)) (gx : GX) : ∀ D r M, gTryV jy jz jn tb gx D r M = (gx (Fr.mute r) M (fun d M' => D.nx (r.set jy (.v d)) M') (caught tb jz jn D r)) := fun D r M => propext Iff.rfl
theorem e_gTryE (jz jn : Nat) (tb : List (Addr × Bool)) (gx : GX) : ∀ D r M, gTryE jz jn tb gx D r M = (gx (Fr.mute r) M (fun _ M' => D.nx r M') (caught tb jz jn D r)) := fun D r M => propext Iff.rfl
theorem e_gxP (fs : FS) (gs : GA) : ∀ r M Q Xc, gxP fs gs r M Q Xc = (gs r M fun ds M1 => fs ds M0 (fun d _ => Q d M1) fun C _ => Xc C M1) := fun r M Q Xc => propext Iff.rfl
theorem e_gxM (fs : FS) (gs : GA) : ∀ r M Q Xc, gxM fs gs r M Q Xc = (gs r M fun ds M1 => fs ds M1 Q Xc) := fun r M Q Xc => propext Iff.rfl
theorem e_gIPut (i : Nat) (gi ge : GE) : ∀ D r M, gIPut i gi ge D r M = (ge r M fun d M1 => match r.sl[i]? with
  | some (.o (.lst ds)) => gi r M1 fun k M2 => match k with
    | .int k => (match ixN ds.length k with
      | some j => D.nx (r.set i (.o (.lst (ds.set j d)))) M2
      | none => False)
    | _ => False
  | _ => False) := fun D r M => propext Iff.rfl
theorem e_gFrz (i : Nat) (g : GS) : ∀ D r M, gFrz i g D r M = (g D (frz i r) M) := fun D r M => propext Iff.rfl
theorem e_gAsg (ge : GE) (gt : GG) : ∀ D r M, gAsg ge gt D r M = (ge r M fun d M1 => gt d r M1 D.nx) := fun D r M => propext Iff.rfl
theorem e_gPar (i j : Nat) (gs : GA) : ∀ D r M, gPar i j gs D r M = (gs r M fun ds M1 => match ds with
  | [d, e] => D.nx ((r.set i (.v d)).set j (.v e)) M1
  | _ => False) := fun D r M => propext Iff.rfl
theorem e_gPar3 (i j l : Nat) (gs : GA) : ∀ D r M, gPar3 i j l gs D r M = (gs r M fun ds M1 => match ds with
  | [d, e, u] => D.nx (((r.set i (.v d)).set j (.v e)).set l (.v u)) M1
  | _ => False) := fun D r M => propext Iff.rfl
theorem e_gAug (i : Nat) (go : GO) (ge : GE) : ∀ D r M, gAug i go ge D r M = (match r.sl[i]? with
  | some (.v d) => ge r M fun e M1 => go d e M1 fun z M2 => D.nx (r.set i (.v z)) M2
  | _ => False) := fun D r M => propext Iff.rfl
theorem e_gRaise (C : Addr) : ∀ u0 r M, gRaise C u0 r M = (r.ex C M) := fun u0 r M => propext Iff.rfl
theorem e_gRetM (gf : GF) : ∀ D r M, gRetM gf D r M = (gf r M fun m M1 => ∀ a, M1 a = none → D.rt (.ref a) (mup M1 a (.om m))) := fun D r M => propext Iff.rfl
theorem e_gSetM (i : Nat) (gf : GF) : ∀ D r M, gSetM i gf D r M = (gf r M fun m M1 => ∀ a, M1 a = none → D.nx (r.set i (.v (.ref a))) (mup M1 a (.om m))) := fun D r M => propext Iff.rfl
theorem e_gMPut (ga gb gc : GE) : ∀ D r M, gMPut ga gb gc D r M = (gc r M fun v M1 => ga r M1 fun d M2 => gb r M2 fun e M3 => match d, keyD e with
  | .ref l, some k => (match M3 l with
    | some (.om (.dic kds)) => kds.length < sizeLine ∧ D.nx r (mup M3 l (.om (.dic (putD kds k v))))
    | _ => False)
  | _, _ => False) := fun D r M => propext Iff.rfl
theorem e_gMGet (ga gb : GE) : ∀ r M Q, gMGet ga gb r M Q = (ga r M fun d M1 => gb r M1 fun e M2 => match d, keyD e with
  | .ref l, some k => (match M2 l with
    | some (.om (.dic kds)) => (match valD kds k with
      | some v => Q v M2
      | none => False)
    | _ => False)
  | .dic kds, some k => (match valD kds k with
    | some v => Q v M2
    | none => False)
  | _, _ => False) := fun r M Q => propext Iff.rfl
theorem e_g1 (go : GU) (ga : GE) : ∀ r M Q, g1 go ga r M Q = (ga r M fun d M1 => go d M1 Q) := fun r M Q => propext Iff.rfl
theorem e_g2 (go : GO) (ga gb : GE) : ∀ r M Q, g2 go ga gb r M Q = (ga r M fun d M1 => gb r M1 fun e M2 => go d e M2 Q) := fun r M Q => propext Iff.rfl
theorem e_gC (d : D) : ∀ u0 M Q, gC d u0 M Q = (Q d M) := fun u0 M Q => propext Iff.rfl
theorem e_gV (i : Nat) : ∀ r M Q, gV i r M Q = (match r.sl[i]? with
  | some (.v d) => Q d M
  | _ => False) := fun r M Q => propext Iff.rfl
theorem e_gVw (i : Nat) : ∀ r M Q, gVw i r M Q = (match r.sl[i]? with
  | some (.v d) => Q d M
  | some (.o (.lst ds)) => Q (.lst ds) M
  | some (.o (.dic ds)) => Q (.dic ds) M
  | some (.b true ds) => Q (.tup ds) M
  | some (.b false ds) => Q (.lst ds) M
  | _ => False) := fun r M Q => propext Iff.rfl
theorem e_gB (g : GE) : ∀ r M Q, gB g r M Q = (g r M fun d M' => match d with
  | .bl b => Q b M'
  | _ => False) := fun r M Q => propext Iff.rfl
theorem e_gAnd (t u : GT) : ∀ r M Q, gAnd t u r M Q = (t r M fun c M1 => if c = true then u r M1 Q else Q false M1) := fun r M Q => propext Iff.rfl
theorem e_gOr (t u : GT) : ∀ r M Q, gOr t u r M Q = (t r M fun c M1 => if c = true then Q true M1 else u r M1 Q) := fun r M Q => propext Iff.rfl
theorem e_gNot (t : GT) : ∀ r M Q, gNot t r M Q = (t r M fun c M1 => Q (!c) M1) := fun r M Q => propext Iff.rfl
theorem e_gNotV (ga : GE) : ∀ r M Q, gNotV ga r M Q = (ga r M fun d M1 => match d with
  | .bl c => Q (.bl (!c)) M1
  | _ => False) := fun r M Q => propext Iff.rfl
theorem e_gIf (t : GT) (ga gb : GE) : ∀ r M Q, gIf t ga gb r M Q = (t r M fun c M1 => if c = true then ga r M1 Q else gb r M1 Q) := fun r M Q => propext Iff.rfl
theorem e_DL_gCons (ge : GE) (ga : GA) : ∀ r M Q, DL.gCons ge ga r M Q = (ge r M fun d M1 => ga r M1 fun ds M2 => Q (d :: ds) M2) := fun r M Q => propext Iff.rfl
theorem e_DL_gNil : ∀ u0 M Q, DL.gNil u0 M Q = (Q [] M) := fun u0 M Q => propext Iff.rfl
theorem e_DL_gTup (gs : GA) : ∀ r M Q, DL.gTup gs r M Q = (gs r M fun ds M1 => Q (.tup ds) M1) := fun r M Q => propext Iff.rfl
theorem e_DL_gLst (gs : GA) : ∀ r M Q, DL.gLst gs r M Q = (gs r M fun ds M1 => Q (.lst ds) M1) := fun r M Q => propext Iff.rfl
theorem e_gFl (gs : GA) : ∀ r M Q, gFl gs r M Q = (gs r M fun ds M1 => Q (.lst ds) M1) := fun r M Q => propext Iff.rfl
theorem e_gFd (gf : GF) : ∀ r M Q, gFd gf r M Q = (gf r M fun m M1 => match m with
  | .lst ds => Q (.lst ds) M1
  | .dic _ => False) := fun r M Q => propext Iff.rfl
theorem e_gCa (gc : GC) (gs : GA) : ∀ r M Q, gCa gc gs r M Q = (gs r M fun ds M1 => gc ds M1 Q) := fun r M Q => propext Iff.rfl
theorem e_gLenS (i : Nat) : ∀ r M Q, gLenS i r M Q = (match r.sl[i]? with
  | some (.s ns) => Q (.int ns.length) M
  | _ => False) := fun r M Q => propext Iff.rfl
theorem e_gPart (g : GE) : ∀ r M Q, gPart g r M Q = (g r M fun d M1 => match d with
  | .int i => Q (some i) M1
  | _ => False) := fun r M Q => propext Iff.rfl
theorem e_gNoP : ∀ u0 M Q, gNoP u0 M Q = (Q none M) := fun u0 M Q => propext Iff.rfl
theorem e_gDisp (gp : GPs) : ∀ r M Q, gDisp gp r M Q = (gp r M fun kds M1 => Q (.dic (mergeD [] kds)) M1) := fun r M Q => propext Iff.rfl
theorem e_gPcons (x : Str) (g : GE) (gs : GPs) : ∀ r M Q, gPcons x g gs r M Q = (g r M fun d M1 => gs r M1 fun kds M2 => Q ((.inr x, d) :: kds) M2) := fun r M Q => propext Iff.rfl
theorem e_gPnil : ∀ r M Q, gPnil r M Q = (Q [] M) := fun r M Q => propext Iff.rfl
theorem e_gtN (i : Nat) : ∀ d r M Q, gtN i d r M Q = (Q (r.set i (.v d)) M) := fun d r M Q => propext Iff.rfl
theorem e_gtTup (gts : GGs) (n : Nat) : ∀ d r M Q, gtTup gts n d r M Q = (match d with
  | .tup ds => ds.length = n ∧ gts ds r M Q
  | _ => False) := fun d r M Q => propext Iff.rfl
theorem e_gtCons (g : GG) (gs : GGs) : ∀ ds r M Q, gtCons g gs ds r M Q = (match ds with
  | d :: r' => g d r M fun r1 M1 => gs r' r1 M1 Q
  | [] => False) := fun ds r M Q => propext Iff.rfl
theorem e_gtNil : ∀ ds r M Q, gtNil ds r M Q = (ds = [] ∧ Q r M) := fun ds r M Q => propext Iff.rfl
theorem e_gYes : ∀ u0 M Q, gYes u0 M Q = (Q true M) := fun u0 M Q => propext Iff.rfl
theorem e_gFor (gi : GI) (gt : GG) (gb : GS) : ∀ D r M, gFor gi gt gb D r M = (gi r M fun ds M1 => loopD gt gb ds D r M1) := fun D r M => propext Iff.rfl
theorem e_gLc (gi : GI) (gt : GG) (gtt : GT) (ge : GE) (vs : List Nat) : ∀ r M Q, gLc gi gt gtt ge vs r M Q = (noOwn r vs = true ∧ gi r M fun ds M1 => lcD gt gtt ge (wipeF r vs) ds [] M1 fun acc M2 => Q (.lst acc) M2) := fun r M Q => propext Iff.rfl
theorem e_giS (i : Nat) : ∀ r M Q, giS i r M Q = (match r.sl[i]? with
  | some (.s ns) => Q (ns.map D.int) M
  | _ => False) := fun r M Q => propext Iff.rfl
theorem e_gCallP (fs : FS) (gs : GA) : ∀ r M Q, gCallP fs gs r M Q = (gs r M fun ds M1 => fs ds M0 (fun d _ => Q d M1) fun C _ => r.ex C M1) := fun r M Q => propext Iff.rfl
theorem e_gCallM (fs : FS) (gs : GA) : ∀ r M Q, gCallM fs gs r M Q = (gs r M fun ds M1 => fs ds M1 Q r.ex) := fun r M Q => propext Iff.rfl
theorem e_gScr (i : Nat) : ∀ r M Q, gScr i r M Q = (match r.sl[i]? with
  | some (.s ns) => Q [.lst (ns.map D.int)] M
  | _ => False) := fun r M Q => propext Iff.rfl
theorem e_gIdx (ga gb : GE) : ∀ r M Q, gIdx ga gb r M Q = (ga r M fun d M1 => match d with
  | .lst ds => gb r M1 fun e M2 => (D.ok (.lst ds) = true ∧ e.ok = true) ∧ (match ixD ds e 0 with
    | some j => Q (.int (j : Nat)) M2
    | none => False)
  | .tup ds => gb r M1 fun e M2 => ixT ds e fun j => Q (.int (j : Nat)) M2
  | _ => False) := fun r M Q => propext Iff.rfl
theorem e_goAdd_int : type_of% @goAdd_int := by intros; exact propext (Iff.of_eq goAdd_int)
theorem e_goAdd_str : type_of% @goAdd_str := by intros; exact propext (Iff.of_eq goAdd_str)
theorem e_goAdd_tup : type_of% @goAdd_tup := by intros; exact propext (Iff.of_eq goAdd_tup)
theorem e_goAdd_lst : type_of% @goAdd_lst := by intros; exact propext (Iff.of_eq goAdd_lst)
theorem e_goAddW_int : type_of% @goAddW_int := by intros; exact propext (Iff.of_eq goAddW_int)
theorem e_goAddW_lst : type_of% @goAddW_lst := by intros; exact propext (Iff.of_eq goAddW_lst)
theorem e_goPlus_int : type_of% @goPlus_int := by intros; exact propext (Iff.of_eq goPlus_int)
theorem e_goI_int : type_of% @goI_int := by intros; exact propext (Iff.of_eq goI_int)
theorem e_guI_int : type_of% @guI_int := by intros; exact propext (Iff.of_eq guI_int)
theorem e_gcI1_int : type_of% @gcI1_int := by intros; exact propext (Iff.of_eq gcI1_int)
theorem e_goIx_lst : type_of% @goIx_lst := by intros; exact propext (Iff.of_eq goIx_lst)
theorem e_gcLen_lst : type_of% @gcLen_lst := by intros; exact propext (Iff.of_eq gcLen_lst)
theorem e_gcTupleS_lst : type_of% @gcTupleS_lst := by intros; exact propext (Iff.of_eq gcTupleS_lst)
theorem e_gcList_lst : type_of% @gcList_lst := by intros; exact propext (Iff.of_eq gcList_lst)
theorem e_goRevA_lst : type_of% @goRevA_lst := by intros; exact propext (Iff.of_eq goRevA_lst)
theorem e_goIx_tup : type_of% @goIx_tup := by intros; exact propext (Iff.of_eq goIx_tup)
theorem e_gcLen_tup : type_of% @gcLen_tup := by intros; exact propext (Iff.of_eq gcLen_tup)
theorem e_gcTupleS_tup : type_of% @gcTupleS_tup := by intros; exact propext (Iff.of_eq gcTupleS_tup)
theorem e_gcList_tup : type_of% @gcList_tup := by intros; exact propext (Iff.of_eq gcList_tup)
theorem e_goRevA_tup : type_of% @goRevA_tup := by intros; exact propext (Iff.of_eq goRevA_tup)
theorem e_gcTuple_lst : type_of% @gcTuple_lst := by intros; exact propext (Iff.of_eq gcTuple_lst)
theorem e_goIx_str : type_of% @goIx_str := by intros; exact propext (Iff.of_eq goIx_str)
theorem e_gcLen_str : type_of% @gcLen_str := by intros; exact propext (Iff.of_eq gcLen_str)
theorem e_gcInt_int : type_of% @gcInt_int := by intros; exact propext (Iff.of_eq gcInt_int)
theorem e_gcInt_bl : type_of% @gcInt_bl := by intros; exact propext (Iff.of_eq gcInt_bl)
theorem e_goMulT_tup : type_of% @goMulT_tup := by intros; exact propext (Iff.of_eq goMulT_tup)
theorem e_goMulL_lst : type_of% @goMulL_lst := by intros; exact propext (Iff.of_eq goMulL_lst)
theorem e_goIsB_bl : type_of% @goIsB_bl := by intros; exact propext (Iff.of_eq goIsB_bl)
theorem e_goIsN_non : type_of% @goIsN_non := by intros; exact propext (Iff.of_eq goIsN_non)
theorem e_truK_non : type_of% @truK_non := by intros; exact propext (Iff.of_eq truK_non)
theorem e_truK_bl : type_of% @truK_bl := by intros; exact propext (Iff.of_eq truK_bl)
theorem e_truK_int : type_of% @truK_int := by intros; exact propext (Iff.of_eq truK_int)
theorem e_truK_lst : type_of% @truK_lst := by intros; exact propext (Iff.of_eq truK_lst)
theorem e_truK_tup : type_of% @truK_tup := by intros; exact propext (Iff.of_eq truK_tup)
theorem e_truK_str : type_of% @truK_str := by intros; exact propext (Iff.of_eq truK_str)
theorem e_lstK_lst : type_of% @lstK_lst := by intros; exact propext (Iff.of_eq lstK_lst)
theorem e_lstK_tup : type_of% @lstK_tup := by intros; exact propext (Iff.of_eq lstK_tup)
theorem e_slK_lst : type_of% @slK_lst := by intros; exact propext (Iff.of_eq slK_lst)
theorem e_slK_str : type_of% @slK_str := by intros; exact propext (Iff.of_eq slK_str)
theorem e_itsK_lst : type_of% @itsK_lst := by intros; exact propext (Iff.of_eq itsK_lst)
theorem e_itsK_tup : type_of% @itsK_tup := by intros; exact propext (Iff.of_eq itsK_tup)
theorem e_zipK_lst : type_of% @zipK_lst := by intros; exact propext (Iff.of_eq zipK_lst)
theorem e_zipK_tup : type_of% @zipK_tup := by intros; exact propext (Iff.of_eq zipK_tup)
theorem e_ran1K_int : type_of% @ran1K_int := by intros; exact propext (Iff.of_eq ran1K_int)
theorem e_ran2K_int : type_of% @ran2K_int := by intros; exact propext (Iff.of_eq ran2K_int)
theorem e_goLtA_int : type_of% @goLtA_int := by intros; exact propext (Iff.of_eq goLtA_int)
theorem e_goEq_int : type_of% @goEq_int := by intros; exact propext (Iff.of_eq goEq_int)
theorem e_goNe_int : type_of% @goNe_int := by intros; exact propext (Iff.of_eq goNe_int)
theorem e_goEq_bl : type_of% @goEq_bl := by intros; exact propext (Iff.of_eq goEq_bl)
theorem e_goNe_bl : type_of% @goNe_bl := by intros; exact propext (Iff.of_eq goNe_bl)
theorem e_goEq_str : type_of% @goEq_str := by intros; exact propext (Iff.of_eq goEq_str)
theorem e_goNe_str : type_of% @goNe_str := by intros; exact propext (Iff.of_eq goNe_str)
theorem e_goEq_tup : type_of% @goEq_tup := by intros; exact propext (Iff.of_eq goEq_tup)
theorem e_goNe_tup : type_of% @goNe_tup := by intros; exact propext (Iff.of_eq goNe_tup)
theorem e_goEq_lst : type_of% @goEq_lst := by intros; exact propext (Iff.of_eq goEq_lst)
theorem e_goNe_lst : type_of% @goNe_lst := by intros; exact propext (Iff.of_eq goNe_lst)
theorem e_goEq_non : type_of% @goEq_non := by intros; exact propext (Iff.of_eq goEq_non)
theorem e_goNe_non : type_of% @goNe_non := by intros; exact propext (Iff.of_eq goNe_non)
theorem e_gAndV_k : type_of% @gAndV_k := by intros; exact propext (Iff.of_eq gAndV_k)
theorem e_gOrV_k : type_of% @gOrV_k := by intros; exact propext (Iff.of_eq gOrV_k)
theorem e_gCh_k : type_of% @gCh_k := by intros; exact propext (Iff.of_eq gCh_k)
theorem e_gFld (K : PySem.W.Frag) (f : PySem.Str) (ga : GE) : ∀ r M Q, gFld K f ga r M Q = (ga r M fun d M1 => fldK K f d M1 Q) := fun r M Q => propext Iff.rfl
theorem e_fldK_ref : type_of% @fldK_ref := by intros; exact propext (Iff.of_eq fldK_ref)
theorem e_gPutF (K : PySem.W.Frag) (f : PySem.Str) (ga ge : GE) : ∀ D r M, gPutF K f ga ge D r M = (ge r M fun z M1 => ga r M1 fun d M2 => putFK K f z d M2 fun M3 => D.nx r M3) := fun D r M => propext Iff.rfl
theorem e_gPutFM (K : PySem.W.Frag) (f : PySem.Str) (ga : GE) (gf : GF) : ∀ D r M, gPutFM K f ga gf D r M = (gf r M fun m M1 => ∀ l, M1 l = none → ga r (mup M1 l (.om m)) fun d M2 => putFK K f (.ref l) d M2 fun M3 => D.nx r M3) := fun D r M => propext Iff.rfl
theorem e_putFK_ref : type_of% @putFK_ref := by intros; exact propext (Iff.of_eq putFK_ref)
theorem e_gDrf (ga : GE) : ∀ r M Q, gDrf ga r M Q = (ga r M fun d M1 => drfK d M1 Q) := fun r M Q => propext Iff.rfl
theorem e_drfK_ref : type_of% @drfK_ref := by intros; exact propext (Iff.of_eq drfK_ref)
theorem e_gMApp (go ge : GE) : ∀ D r M, gMApp go ge D r M = (go r M fun d M1 => mlK d M1 fun l _ => ge r M1 fun z M2 => mlK (.ref l) M2 fun l ds => ds.length < sizeLine ∧ D.nx r (mup M2 l (.om (.lst (ds ++ [z]))))) := fun D r M => propext Iff.rfl
theorem e_mlK_ref : type_of% @mlK_ref := by intros; exact propext (Iff.of_eq mlK_ref)
theorem e_gMPop (go ge : GE) : ∀ r M Q, gMPop go ge r M Q = (go r M fun d M1 => mlK d M1 fun l _ => ge r M1 fun z M2 => mlK (.ref l) M2 fun l ds => popK z ds fun y ds' => Q y (mup M2 l (.om (.lst ds')))) := fun r M Q => propext Iff.rfl
theorem e_popK_int : type_of% @popK_int := by intros; exact propext (Iff.of_eq popK_int)
theorem e_gMIns (go : GE) (gs : GA) : ∀ D r M, gMIns go gs D r M = (go r M fun d M1 => mlK d M1 fun l _ => gs r M1 fun zs M2 => mlK (.ref l) M2 fun l ds => ins2K zs ds fun ds' => D.nx r (mup M2 l (.om (.lst ds')))) := fun D r M => propext Iff.rfl
theorem e_gMeth (m : PySem.Str) (tbl : List (Addr × FS)) (go : GE) (gs : GA) : ∀ r M Q, gMeth m tbl go gs r M Q = (go r M fun d M1 => mthK m tbl d M1 fun a fs => gs r M1 fun ds M2 => fs (.ref a :: ds) M2 Q r.ex) := fun r M Q => propext Iff.rfl
theorem e_mthK_ref : type_of% @mthK_ref := by intros; exact propext (Iff.of_eq mthK_ref)
theorem e_gMake (C : Addr) (Fk : Prop) (fs : FS) (gs : GA) : ∀ r M Q, gMake C Fk fs gs r M Q = (gs r M fun ds M1 => Fk → ∀ x, M1 x = none → fs (.ref x :: ds) (mup M1 x (.ins C [])) (fun d M2 => d = .non ∧ Q (.ref x) M2) r.ex) := fun r M Q => propext Iff.rfl
theorem e_giR3 (gs : GA) : ∀ r M Q, giR3 gs r M Q = (gs r M fun ds M1 => match ds with
  | [.int i, .int j, .int c] => ∃ n, RgC i j c n ∧ Q (rngC i c n) M1
  | _ => False) := fun r M Q => propext Iff.rfl
theorem e_gFlR1 (ga : GE) : ∀ r M Q, gFlR1 ga r M Q = (ga r M fun y M1 => rg2K (.int 0) y fun ds => Q (.lst ds) M1) := fun r M Q => propext Iff.rfl
theorem e_gFlR2 (ga gb : GE) : ∀ r M Q, gFlR2 ga gb r M Q = (ga r M fun x M1 => gb r M1 fun y M2 => rg2K x y fun ds => Q (.lst ds) M2) := fun r M Q => propext Iff.rfl
theorem e_rg2K_int : type_of% @rg2K_int := by intros; exact propext (Iff.of_eq rg2K_int)
theorem e_gLenSet (ga : GE) : ∀ r M Q, gLenSet ga r M Q = (ga r M fun x M1 => lenSetK x fun d => Q d M1) := fun r M Q => propext Iff.rfl
theorem e_gMinD (ga gb : GE) : ∀ r M Q, gMinD ga gb r M Q = (ga r M fun x M1 => gb r M1 fun y M2 => minDK x y fun d => Q d M2) := fun r M Q => propext Iff.rfl
theorem e_giMem (go : GE) : ∀ r M Q, giMem go r M Q = (go r M fun d M1 => mlK d M1 fun _ ds => Q ds M1) := fun r M Q => propext Iff.rfl
theorem e_giBA (i : Nat) : ∀ r M Q, giBA i r M Q = (match r.sl[i]? with
  | some (.b _ ds) => Q ds M
  | some (.v (.lst ds)) => Q ds M
  | some (.v (.tup ds)) => Q ds M
  | _ => False) := fun r M Q => propext Iff.rfl
theorem e_gMIdx (go ge : GE) : ∀ r M Q, gMIdx go ge r M Q = (go r M fun d M1 => mlK d M1 fun l _ => ge r M1 fun z M2 => mlK (.ref l) M2 fun _ ds => ixM ds z fun j => Q (.int (j : Nat)) M2) := fun r M Q => propext Iff.rfl
theorem e_goTab (a : Addr) (ks : List Str) (neg : Bool) : ∀ d e M Q, goTab a ks neg d e M Q = (match d, e with
  | .str z, .ref b => b = a ∧ Q (.bl (if neg = true then !decide (z ∈ ks) else decide (z ∈ ks))) M
  | _, _ => False) := fun d e M Q => propext Iff.rfl
theorem e_gFsort (ga : GE) : ∀ r M Q, gFsort ga r M Q = (ga r M fun d M1 => sortK d fun ds => Q (.lst ds) M1) := fun r M Q => propext Iff.rfl
theorem e_gStep (ga gb : GE) : ∀ r M Q, gStep ga gb r M Q = (ga r M fun d M1 => gb r M1 fun e M2 => stepK d e M2 Q) := fun r M Q => propext Iff.rfl
theorem e_stepK_lst : type_of% @stepK_lst := by intros; exact propext (Iff.of_eq stepK_lst)
theorem e_gAppM (i : Nat) (gf : GF) : ∀ D r M, gAppM i gf D r M = (match r.sl[i]? with
  | some (.o (.lst ds)) => gf r M fun m M1 => ds.length < sizeLine ∧ ∀ a, M1 a = none → D.nx (r.set i (.o (.lst (ds ++ [.ref a])))) (mup M1 a (.om m))
  | _ => False) := fun D r M => propext Iff.rfl
theorem e_gDictV (ga : GE) : ∀ r M Q, gDictV ga r M Q = (ga r M fun d M1 => dictK d fun kds => Q (.dic kds) M1) := fun r M Q => propext Iff.rfl
theorem e_gFdict (ga : GE) : ∀ r M Q, gFdict ga r M Q = (ga r M fun d M1 => dictK d fun kds => Q (.dic kds) M1) := fun r M Q => propext Iff.rfl
theorem e_dictK_lst : type_of% @dictK_lst := by intros; exact propext (Iff.of_eq dictK_lst)
theorem e_dictK_tup : type_of% @dictK_tup := by intros; exact propext (Iff.of_eq dictK_tup)
theorem e_dictK_dic : type_of% @dictK_dic := by intros; exact propext (Iff.of_eq dictK_dic)
theorem e_gDic0 : ∀ u0 M Q, gDic0 u0 M Q = (Q (.dic []) M) := fun u0 M Q => propext Iff.rfl
theorem e_gFdic0 : ∀ u0 M Q, gFdic0 u0 M Q = (Q (.dic []) M) := fun u0 M Q => propext Iff.rfl
theorem e_gDGet1 (go ge : GE) : ∀ r M Q, gDGet1 go ge r M Q = (go r M fun d M1 => dicK d fun kds => ge r M1 fun e M2 => getK kds e .non fun z => Q z M2) := fun r M Q => propext Iff.rfl
theorem e_gDGet2 (go ge gz : GE) : ∀ r M Q, gDGet2 go ge gz r M Q = (go r M fun d M1 => dicK d fun kds => ge r M1 fun e M2 => gz r M2 fun z M3 => getK kds e z fun z => Q z M3) := fun r M Q => propext Iff.rfl
theorem e_dicK_dic : type_of% @dicK_dic := by intros; exact propext (Iff.of_eq dicK_dic)
theorem e_gOPut (i : Nat) (ge gv : GE) : ∀ D r M, gOPut i ge gv D r M = (match r.sl[i]? with
  | some (.o (.dic kds)) => gv r M fun v M1 => ge r M1 fun e M2 => ∃ k, keyD e = some k ∧ kds.length < sizeLine ∧ D.nx (r.set i (.o (.dic (putD kds k v)))) M2
  | _ => False) := fun D r M => propext Iff.rfl
theorem e_gOPop (i : Nat) (ge gz : GE) : ∀ D r M, gOPop i ge gz D r M = (match r.sl[i]? with
  | some (.o (.dic kds)) => ge r M fun e M1 => gz r M1 fun z M2 => ∃ k, keyD e = some k ∧ D.nx (r.set i (.o (.dic (dropD kds k)))) M2
  | _ => False) := fun D r M => propext Iff.rfl
theorem e_giKeys (ga : GE) : ∀ r M Q, giKeys ga r M Q = (ga r M fun d M1 => dicK d fun kds => Q (kds.map fun kv => kD kv.1) M1) := fun r M Q => propext Iff.rfl
theorem e_gPconsI (x : Int) (g : GE) (gs : GPs) : ∀ r M Q, gPconsI x g gs r M Q = (g r M fun d M1 => gs r M1 fun kds M2 => Q ((.inl x, d) :: kds) M2) := fun r M Q => propext Iff.rfl
theorem e_gDispV (gp : GPs) : ∀ r M Q, gDispV gp r M Q = (gp r M fun kds M1 => Q (.dic (mergeD [] kds)) M1) := fun r M Q => propext Iff.rfl
theorem e_goIx_dic : type_of% @goIx_dic := by intros; exact propext (Iff.of_eq goIx_dic)
theorem e_gcLen_dic : type_of% @gcLen_dic := by intros; exact propext (Iff.of_eq gcLen_dic)
theorem e_lstK_dic : type_of% @lstK_dic := by intros; exact propext (Iff.of_eq lstK_dic)
theorem e_truK_dic : type_of% @truK_dic := by intros; exact propext (Iff.of_eq truK_dic)
theorem e_gOIns (i : Nat) (gs : GA) : ∀ D r M, gOIns i gs D r M = (match r.sl[i]? with
  | some (.o (.lst ds)) => gs r M fun zs M1 => ins2K zs ds fun ds' => D.nx (r.set i (.o (.lst ds'))) M1
  | _ => False) := fun D r M => propext Iff.rfl
theorem e_gCallL (P : Addr) (q : Str) (fs : LmT → FS) (gb : GE) (gs : GA) : ∀ r M Q, gCallL P q fs gb gs r M Q = (M P = some (.tab q) ∧ gs r M fun ds M1 => fs (gLamT gb r) ds M1 Q r.ex) := fun r M Q => propext Iff.rfl
theorem e_gAct (i : Nat) (lm : Lm) : ∀ r M Q, gAct i lm r M Q = (r.sl[i]? = some (.f lm) ∧ lm.tl M Q r.ex) := fun r M Q => propext Iff.rfl
theorem e_gxAct (i : Nat) (lm : Lm) : ∀ r M Q Xc, gxAct i lm r M Q Xc = (r.sl[i]? = some (.f lm) ∧ lm.tl M Q Xc) := fun r M Q Xc => propext Iff.rfl
theorem e_gxV (i : Nat) (tbl : List (Addr × FS)) (gs : GA) : ∀ r M Q Xc, gxV i tbl gs r M Q Xc = (∃ f fs, r.sl[i]? = some (.v (.ref f)) ∧ (f, fs) ∈ tbl ∧ gs r M fun ds M1 => fs ds M0 (fun d _ => Q d M1) fun C _ => Xc C M1) := fun r M Q Xc => propext Iff.rfl
theorem e_gItemsT (ga : GE) : ∀ r M Q, gItemsT ga r M Q = (ga r M fun d M1 => dicK d fun kds => Q (.tup (kds.map kvD)) M1) := fun r M Q => propext Iff.rfl
theorem e_gFvals (ga : GE) : ∀ r M Q, gFvals ga r M Q = (ga r M fun d M1 => dicK d fun kds => Q (.lst (kds.map Prod.snd)) M1) := fun r M Q => propext Iff.rfl
theorem e_giItems (ga : GE) : ∀ r M Q, giItems ga r M Q = (ga r M fun d M1 => dicK d fun kds => Q (kds.map kvD) M1) := fun r M Q => propext Iff.rfl
theorem e_gFsortD (ga : GE) : ∀ r M Q, gFsortD ga r M Q = (ga r M fun d M1 => sortDK d fun ds => Q (.lst ds) M1) := fun r M Q => propext Iff.rfl
theorem e_sortDK_dic : type_of% @sortDK_dic := by intros; exact propext (Iff.of_eq sortDK_dic)
end DL
set_option Elab.async false
set_option linter.all false
set_option maxRecDepth 100000
set_option maxHeartbeats 2000000
namespace DL
open PySem PySem.Spec PySem.W PyProof.Rows L2
/-- ==, an empty list or tuple behind it -/
def goEqE (c : Bool) : GO := fun d e M Q => match d, e with
  | .lst xs, .lst [] => Q (.bl (xor c xs.isEmpty)) M
  | .tup xs, .tup [] => Q (.bl (xor c xs.isEmpty)) M
  | _, _ => False
theorem goEqE_lst {c : Bool} {xs : List D} {M : Mem} {Q : D → Mem → Prop} : goEqE c (.lst xs) (.lst []) M Q = Q (.bl (xor c xs.isEmpty)) M := propext Iff.rfl
theorem goEqE_tup {c : Bool} {xs : List D} {M : Mem} {Q : D → Mem → Prop} : goEqE c (.tup xs) (.tup []) M Q = Q (.bl (xor c xs.isEmpty)) M := propext Iff.rfl
end DL
set_option Elab.async false
set_option linter.all false
set_option maxRecDepth 100000
set_option maxHeartbeats 2000000
namespace DL
open PySem PySem.Spec PySem.W PyProof.Rows L2
def keyP : Key → PyData
  | .inl i => .int i
  | .inr x => .str x
mutual
def D.pyA : D → PyData
  | .non => .none
  | .bl b => .bool b
  | .int i => .int i
  | .str x => .str x
  | .tup xs => .tuple (D.pyAL xs)
  | .lst xs => .list (D.pyAL xs)
  | .dic kds => .dict (D.pyAK kds)
  | _ => .none
def D.pyAL : List D → List PyData
  | [] => []
  | d :: r => d.pyA :: D.pyAL r
def D.pyAK : List (Key × D) → List (PyData × PyData)
  | [] => []
  | (k, d) :: r => (keyP k, d.pyA) :: D.pyAK r
end
section
variable {X : Cx} {pins : List (Addr × Obj)} {σ : L2.St} {H : Hp} {s : Shared}
theorem pairs_reads {P : Program} {w : World} {h : Heap} : ∀ {es : List DictEntry} {vs : List (Key × Value)} {kds : List (PyData × PyData)} {as : List Addr}, Pairs (mixKind P w) es vs → kds.map (·.1) = vs.map (fun q => keyP q.1) → ReadsAll h (vs.map (·.2)) (kds.map (·.2)) as →
    ReadsAll h (es.map (·.key)) (kds.map (·.1)) [] ∧ ReadsAll h (es.map (·.val)) (kds.map (·.2)) as := by
  intro es vs kds as hp
  induction hp generalizing kds as with
  | nil =>
    intro hk hv
    cases kds with
    | nil => exact ⟨.nil, hv⟩
    | cons _ _ => cases hk
  | @cons e kv es kvs h1 h2 _ ih =>
    intro hk hv
    cases kds with
    | nil => cases hk
    | cons q kds =>
      obtain ⟨e1, e2⟩ := List.cons.inj hk
      cases hv with
      | @cons _ _ _ _ as bs hv1 hv2 =>
        obtain ⟨i1, i2⟩ := ih e2 hv2
        refine ⟨?_, ?_⟩
        · have key : Reads h e.key q.1 [] := by
            rw [show q.1 = keyP kv.1 from e1]
            rcases keyIs_shape (show keyIs kv.1 e.key = true from h1) with ⟨i, t, e3, e4⟩ | ⟨x, t, e3, e4⟩
            · rw [e3, e4]; exact .int i t
            · rw [e3, e4]; exact .str x t
          exact ReadsAll.cons (as := []) (bs := []) key i1
        · rw [List.map_cons, h2]
          exact .cons hv1 i2
mutual
theorem Is.rdA {A : Addr → Prop} (I : Inv X pins σ H s) (hsm : H sysModules = none) : ∀ {v : V} {d : D}, Is X.K A H v d → d.da = true → ∀ {u : Value}, RelV v u → ∃ as, Reads s.heap u d.pyA as ∧ sysModules ∉ as
  | _, _, .non, _, _, r => by cases r; exact ⟨_, .none, fun z => by cases z⟩
  | _, _, .bl b, _, _, r => by cases r; exact ⟨_, .bool b, fun z => by cases z⟩
  | _, _, .int i, _, _, r => by obtain ⟨t, rfl⟩ := r; exact ⟨_, .int i t, fun z => by cases z⟩
  | _, _, .str x, _, _, r => by obtain ⟨t, rfl⟩ := r; exact ⟨_, .str x t, fun z => by cases z⟩
  | _, _, .ty n, h, _, _ => by cases h
  | _, _, .ref a, h, _, _ => by cases h
  | _, _, .tup (a := a) h l, hd, _, r => by
    cases r
    obtain ⟨its, rv, ⟨o, ho, hc, n, hdt⟩, _⟩ := I.tuple h.sq
    obtain ⟨as, hr, hn⟩ := IsL.rdA I hsm l (by rw [D.da_tup] at hd; exact hd) rv
    exact ⟨_, Reads.tuple ho hc hdt hr, hn⟩
  | _, _, .lst (a := a) h l, hd, _, r => by
    cases r
    obtain ⟨its, rv, ⟨o, n, ho, hc, _, hdt⟩, _⟩ := I.list (SqL.of h.2)
    obtain ⟨as, hr, hn⟩ := IsL.rdA I hsm l (by rw [D.da_lst] at hd; exact hd) rv
    refine ⟨_, Reads.list ho hc hdt hr, fun z => ?_⟩
    rcases List.mem_cons.mp z with e | z
    · have h2 := h.2
      rw [← e, hsm] at h2
      cases h2
    · exact hn z
  | _, _, .dic (a := a) h l, hd, _, r => by
    cases r
    obtain ⟨_, ob, ho'⟩ := h
    obtain ⟨_, hs0, vs, kv, o, es, ep, ho, hx, hdt, _, hp, _⟩ := dk_rd I.hok (.inr ⟨ob, ho'⟩)
    obtain ⟨as, hr, hn, hk⟩ := IsK.rdA I hsm l (by simp only [D.da] at hd; exact hd) kv
    obtain ⟨r1, r2⟩ := pairs_reads hp hk hr
    refine ⟨_, Reads.dict ho hx.1 hdt r1 r2, fun z => ?_⟩
    rcases List.mem_append.mp z with z | z
    · rcases List.mem_cons.mp z with e | z
      · rw [← e] at hs0
        simp at hs0
      · cases z
    · exact hn z
theorem IsL.rdA {A : Addr → Prop} (I : Inv X pins σ H s) (hsm : H sysModules = none) : ∀ {vs : List V} {ds : List D}, IsL X.K A H vs ds → D.daL ds = true → ∀ {us : List Value}, Vals vs us → ∃ as, ReadsAll s.heap us (D.pyAL ds) as ∧ sysModules ∉ as
  | _, _, .nil, _, _, r => by cases r; exact ⟨_, .nil, fun z => by cases z⟩
  | _, _, .cons h t, hd, _, r => by
    cases r with
    | cons r1 r2 =>
      have hd' := Bool.and_eq_true_iff.mp (show (D.da _ && D.daL _) = true from hd)
      obtain ⟨as, h1, n1⟩ := Is.rdA I hsm h hd'.1 r1
      obtain ⟨bs, h2, n2⟩ := IsL.rdA I hsm t hd'.2 r2
      exact ⟨_, .cons h1 h2, fun z => (List.mem_append.mp z).elim n1 n2⟩
theorem IsK.rdA {A : Addr → Prop} (I : Inv X pins σ H s) (hsm : H sysModules = none) : ∀ {kvs : List (Key × V)} {kds : List (Key × D)}, IsK X.K A H kvs kds → D.daK kds = true → ∀ {vs : List (Key × Value)}, KV kvs vs → ∃ as, ReadsAll s.heap (vs.map (·.2)) ((D.pyAK kds).map (·.2)) as ∧ sysModules ∉ as ∧ (D.pyAK kds).map (·.1) = vs.map fun q => keyP q.1
  | _, _, .nil, _, _, r => by cases r; exact ⟨_, .nil, (fun z => by cases z), rfl⟩
  | _, _, .cons (k := k) h t, hd, _, r => by
    cases r with
    | cons r1 r2 =>
      have hd' := Bool.and_eq_true_iff.mp (show (D.da _ && D.daK _) = true from hd)
      obtain ⟨as, h1, n1⟩ := Is.rdA I hsm h hd'.1 r1.2
      obtain ⟨bs, h2, n2, h3⟩ := IsK.rdA I hsm t hd'.2 r2
      refine ⟨_, .cons h1 h2, fun z => (List.mem_append.mp z).elim n1 n2, ?_⟩
      show keyP k :: _ = keyP _ :: _
      rw [h3, ← r1.1]
end
end
/-- the base has sys.modules: nothing tracked stands there -/
def SysB (base : Heap) : Prop := ∃ mm, base.Ns sysModules mm
theorem Inv.sysm {X : Cx} {pins : List (Addr × Obj)} {σ : L2.St} {H : Hp} {s : Shared} (I : Inv X pins σ H s) (h : SysB X.base) : H sysModules = none := by
  obtain ⟨mm, o, es, ep, e, _⟩ := h
  exact (I.bs _ _ e).2
/-- what repr and str may be asked of -/
structure Rp (k n : Nat) (d : D) : Prop where
  da : d.da = true
  sh : d.pyA.showable = true
  dep : d.pyA.depth ≤ k
  len : d.pyA.shown.length ≤ n
def gcReprA : GC := fun ds M Q => match ds with
  | [d] => Rp 60 16000000 d ∧ Q (.str d.pyA.shown) M
  | _ => False
theorem gcReprA_1 {d : D} {M : Mem} {Q : D → Mem → Prop} : gcReprA [d] M Q = (Rp 60 16000000 d ∧ Q (.str d.pyA.shown) M) := propext Iff.rfl
theorem Is1.rdA {X : Cx} {pins : List (Addr × Obj)} {σ : L2.St} {H : Hp} {s : Shared} {A : Addr → Prop} {v : V} {d : D} {u : Value} (I : Inv X pins σ H s) (hsm : H sysModules = none) (i : Is1 X.K A H v d) (hd : d.da = true) (r : RelV v u) : ∃ as, Reads s.heap u d.pyA as ∧ sysModules ∉ as := by
  cases d with
  | tup ds =>
    obtain ⟨a, vs, rfl, h, l⟩ := i
    cases r
    obtain ⟨its, rv, ⟨o, ho, hc, n, hdt⟩, _⟩ := I.tuple h.sq
    obtain ⟨as, hr, hn⟩ := IsL.rdA I hsm l (by rw [D.da_tup] at hd; exact hd) rv
    exact ⟨_, Reads.tuple ho hc hdt hr, hn⟩
  | lst ds =>
    obtain ⟨a, vs, rfl, h, l⟩ := i
    cases r
    obtain ⟨its, rv, ⟨o, n, ho, hc, _, hdt⟩, _⟩ := I.list (SqL.of h)
    obtain ⟨as, hr, hn⟩ := IsL.rdA I hsm l (by rw [D.da_lst] at hd; exact hd) rv
    refine ⟨_, Reads.list ho hc hdt hr, fun z => ?_⟩
    rcases List.mem_cons.mp z with e | z
    · rw [← e, hsm] at h
      cases h
    · exact hn z
  | dic kds =>
    obtain ⟨a, kvs, rfl, h, l⟩ := i
    cases r
    obtain ⟨_, hs0, vs, kv, o, es, ep, ho, hx, hdt, _, hp, _⟩ := dk_rd I.hok h
    obtain ⟨as, hr, hn, hk⟩ := IsK.rdA I hsm l (by simp only [D.da] at hd; exact hd) kv
    obtain ⟨r1, r2⟩ := pairs_reads hp hk hr
    refine ⟨_, Reads.dict ho hx.1 hdt r1 r2, fun z => ?_⟩
    rcases List.mem_append.mp z with z | z
    · rcases List.mem_cons.mp z with e | z
      · rw [← e] at hs0
        simp at hs0
      · cases z
    · exact hn z
  | _ => exact Is.rdA I hsm (show Is X.K A H v _ from i) hd r
theorem ca_reprA {X : Cx} (hu : X.A.units + 66 < cLine) (hg : X.A.guards = some []) (hb : SysB X.base) : CaD X (.builtin "repr") gcReprA where
  ex := ⟨fun vs H Q => ∃ (v : V) (d : D) (A : Addr → Prop), vs = [v] ∧ Is1 X.K A H v d ∧ Rp 60 16000000 d ∧ Q (.str d.pyA.shown) H, fun pins s σ H vs us Q I r h => by
      obtain ⟨v, d, A, rfl, i, hp, q⟩ := h
      obtain ⟨u, rfl, rx⟩ := vals1 r
      have hz : d.pyA.shown.length ≤ sizeLine := by rw [sizeLine_eq]; have := hp.len; omega
      have hd := hp.dep
      obtain ⟨as, rd, ns⟩ := Is1.rdA I (Inv.sysm I hb) i hp.da rx
      have fin : ∀ a, u = .ref a → wpAny (model X.prog X.w) X.A (call (.builtin "repr") [u]) (EP X pins σ Q) X.xe s := fun a e => by
        subst e
        exact repr_of_reads' rd hp.sh (fun _ => ns) hg (by omega) (fun _ _ e => e) (fun h' u tk hk => ⟨.str _, H, I.kept hk, ⟨u, rfl⟩, q⟩) hz
      cases d with
      | non => rw [is1_non i] at rx; cases rx; exact PySem.P.repr_of_none ⟨.str _, H, I.tok _, ⟨_, rfl⟩, q⟩
      | bl b => rw [is1_bl i] at rx; cases rx; exact PySem.P.repr_of_bool ⟨.str _, H, I.tok _, ⟨_, rfl⟩, q⟩
      | int i' =>
        rw [is1_int i] at rx
        obtain ⟨t, rfl⟩ := rx
        exact PySem.P.repr_of_int (of_decide_eq_true hp.sh) ⟨.str _, H, I.tok _, ⟨_, rfl⟩, q⟩
      | str x =>
        rw [is1_str i] at rx
        obtain ⟨t, rfl⟩ := rx
        exact PySem.P.repr_of_str ⟨.str _, H, I.tok _, ⟨_, rfl⟩, q⟩ hz
      | ty n => cases hp.da
      | ref a => cases hp.da
      | tup ds =>
        obtain ⟨a, vs, rfl, _⟩ := i
        exact fin a rx
      | lst ds =>
        obtain ⟨a, vs, rfl, _⟩ := i
        exact fin a rx
      | dic ds =>
        obtain ⟨a, vs, rfl, _⟩ := i
        exact fin a rx, fun B E σ H r M O xs ds Q R ii q => by
    unfold gcReprA at q
    split at q
    · rename_i d
      obtain ⟨v, rfl, i⟩ := isXL1 ii
      exact ⟨v, d, _, rfl, i, q.1, fin_v R (.str _) q.2⟩
    · exact q.elim⟩
  mono := fun d M Q Q' h q => by
    unfold gcReprA at q ⊢
    split at q
    · exact ⟨q.1, h _ _ q.2⟩
    · exact q
/-- what str writes -/
def strT : D → PySem.Str
  | .str x => x
  | d => d.pyA.shown
def gcStrA : GC := fun ds M Q => match ds with
  | [d] => Rp 60 16000000 d ∧ Q (.str (strT d)) M
  | _ => False
theorem gcStrA_1 {d : D} {M : Mem} {Q : D → Mem → Prop} : gcStrA [d] M Q = (Rp 60 16000000 d ∧ Q (.str (strT d)) M) := propext Iff.rfl
theorem ca_strA {X : Cx} (hu : X.A.units + 66 < cLine) (hg : X.A.guards = some []) (hb : SysB X.base) : CaD X (.type "str") gcStrA where
  ex := ⟨fun vs H Q => ∃ (v : V) (d : D) (A : Addr → Prop), vs = [v] ∧ Is1 X.K A H v d ∧ Rp 60 16000000 d ∧ Q (.str (strT d)) H, fun pins s σ H vs us Q I r h => by
      obtain ⟨v, d, A, rfl, i, hp, q⟩ := h
      obtain ⟨u, rfl, rx⟩ := vals1 r
      have hz : d.pyA.shown.length ≤ sizeLine := by rw [sizeLine_eq]; have := hp.len; omega
      have hd := hp.dep
      obtain ⟨as, rd, ns⟩ := Is1.rdA I (Inv.sysm I hb) i hp.da rx
      have fin : ∀ a, u = .ref a → Q (.str d.pyA.shown) H → wpAny (model X.prog X.w) X.A (call (.type "str") [u]) (EP X pins σ Q) X.xe s := fun a e q => by
        subst e
        exact str_of_reads rd hp.sh (fun _ => ns) hg (by omega) (fun _ _ e => e) (fun h' u tk hk => ⟨.str _, H, I.kept hk, ⟨u, rfl⟩, q⟩) hz
      cases d with
      | non => rw [is1_non i] at rx; cases rx; exact PySem.P.str_of_none ⟨.str _, H, I.tok _, ⟨_, rfl⟩, q⟩
      | bl b => rw [is1_bl i] at rx; cases rx; exact PySem.P.str_of_bool ⟨.str _, H, I.tok _, ⟨_, rfl⟩, q⟩
      | int i' =>
        rw [is1_int i] at rx
        obtain ⟨t, rfl⟩ := rx
        exact PySem.P.str_of_int (of_decide_eq_true hp.sh) ⟨.str _, H, I.tok _, ⟨_, rfl⟩, q⟩
      | str x =>
        rw [is1_str i] at rx
        obtain ⟨t, rfl⟩ := rx
        exact PySem.P.str_of_str ⟨.str x, H, I, ⟨t, rfl⟩, q⟩
      | ty n => cases hp.da
      | ref a => cases hp.da
      | tup ds =>
        obtain ⟨a, vs, rfl, _⟩ := i
        exact fin a rx q
      | lst ds =>
        obtain ⟨a, vs, rfl, _⟩ := i
        exact fin a rx q
      | dic ds =>
        obtain ⟨a, vs, rfl, _⟩ := i
        exact fin a rx q, fun B E σ H r M O xs ds Q R ii q => by
    unfold gcStrA at q
    split at q
    · rename_i d
      obtain ⟨v, rfl, i⟩ := isXL1 ii
      exact ⟨v, d, _, rfl, i, q.1, fin_v R (.str _) q.2⟩
    · exact q.elim⟩
  mono := fun d M Q Q' h q => by
    unfold gcStrA at q ⊢
    split at q
    · exact ⟨q.1, h _ _ q.2⟩
    · exact q
end DL
set_option Elab.async false
set_option linter.all false
set_option maxRecDepth 100000
set_option maxHeartbeats 2000000
namespace DL
open PySem PySem.Spec PySem.W PyProof.Rows L2 LamX
/-- the tables, and sys.modules -/
def TBS (K : PySem.W.Frag) (mg : Str → Option Value) (base : Heap) (xs : List Str) : Prop := TBs K mg base xs ∧ SysB base
section
variable {fa : List He.Fa} {fn : List He.DefD} {ts : List He.Tab} {cs : List Ck} {w : World} {K : PySem.W.Frag} {mg : Str → Option Value} {P : Program} {base : Heap} {k : Nat} {ks : List AK}
theorem WorC.lawS_ {fs : FS} {N : List Str} {y : Str} {g : GS} {xs : List Str} (W : WorC fa fn ts cs w K mg) (i : Nat) {x : Str} {st : Stmt}
    (S : FnScope N [y] (defScope st)) (h : fn[i]? = some ⟨(x, none), x, x, defArgs st, defBody st, defScope st, [], []⟩ := by rfl) (h2 : fa[i]? = some (.glo x) := by rfl) (hk : ks.length = [y].length := by rfl)
    (hbd : ∀ (kV doc pm : Value) (an : Option Addr) (cdv ct : Value) (us : List Value), us.length = [y].length → bindArgs (PySem.W.fnOf x x (defArgs st) (defBody st) (defScope st) .none kV doc pm an cdv ct) ⟨us, []⟩ = pure ([y].zip us))
    (hbody : ∀ (base : Heap), TBS K mg base xs → ∀ (f : Addr) (cdv : Value) (hcd : tabIn K x = some (tC K x, tP K x) → cdv = .ref (tC K x)) (A : Around) (outer : List Env) (s : Shared) (H : Hp) (E : XK), Room k (A.deeper (envOfC x (defScope st) s.heap.objs.size f cdv)) → A.guards = some [] →
      DSs (cxOf (L2.CX P w) P w K mg base N x (defScope st) f cdv A outer s H E) (defBody st) g)
    (hfs : ∀ ds M Q X, fs ds M Q X → ds.length = ks.length → g { nx := fun _ M' => Q .non M', rt := Q } (entry N.length ks ds X) M) :
    ∃ f fd, mg x = some (.ref f) ∧ (∀ (s : Shared) (u : Value), BindsTo s fd ⟨[u], []⟩ [(y, u)]) ∧ ∀ base : Heap, TBS K mg base xs → FnG P w K mg base (k + 1) f fd [y] (toSp K ks fs) := by
  obtain ⟨fd, F⟩ := W.c.def_ i h
  have F1 : Fun K x x st (He.ga K x) fd := He5.fun_of F
  exact ⟨_, fd, W.glo i h2, fun s u => FunD.bindsA (ps := [y]) F hbd s [u] rfl, fun base tb => d_fnC F1 S hk (fun cdv e => hbody base tb (He.ga K x) cdv fun ht => by rw [← e]; exact tab_code F1 rfl ht) hfs⟩
end
theorem head_callS {P : Program} {w : World} {K : PySem.W.Frag} {mg mb : Str → Option Value} {k : Nat} {fa a : Addr} {fd : FuncData} {x : Str} {sp : Sp} {t : Shared} {us : List Value} {ns : List Int} {xs : List Str}
    (kin : K.In t.heap) (hg : t.heap.Ns mainGlobals mg) (hbi : t.heap.Ns builtinsNs mb) (hboot : ∀ y : Str, y ≠ "__name__" → mb y = bootBuiltins y) (hlim : t.heap.NoLimit) (hgen : t.gens = #[])
    (hT : ∀ y ∈ xs, t.heap.get? (tP K y) = some tab0 ∧ CodeHd t.heap (tC K y) (tP K y) ∧ K.lookup (tP K y) = none)
    (hbm : ∃ (bm : Addr) (ob : Obj), mg "__builtins__" = some (.ref bm) ∧ bm ≠ builtinsNs ∧ t.heap.get? bm = some ob ∧ ob.cls = .type "module" ∧ ob.dict = some builtinsNs ∧ ob.data = .plain)
    (hat : t.heap.get? a = some { cls := .type "list", data := .seq us.toArray }) (hin : IntsAre us ns) (hle : ns.length ≤ sizeLine) (room : Room k callerA)
    (hsy : ∃ mm, t.heap.Ns sysModules mm) (F : ∀ base : Heap, K.In base → base.Ns mainGlobals mg → TBS K mg base xs → FnG P w K mg base k fa fd [x] sp) (bnd : ∀ (s : Shared) (u : Value), BindsTo s fd ⟨[u], []⟩ [(x, u)])
    (hsp : ∀ H : Hp, OnlyT (xs.map (tP K)) H → SqL K H a (ns.map V.int) → sp [.ref a] H (fun v _ => v = .bl true) fun _ _ _ => False) :
    codeAny (model P w) callerA (.call (.ref fa) ⟨[.ref a], []⟩) (fun r s' => r = .ok (.ret (.bool true)) ∧ OldK t.heap s'.heap ∧ s'.os = t.os ∧ AllBare s'.gens) t := by
  have hv := vals_ints hin
  have hlen := hin.length
  have isT : ∀ b, b ∈ xs.map (tP K) → t.heap.get? b = some tab0 ∧ (∃ y ∈ xs, tP K y = b) := fun b hb => by
    obtain ⟨y, hy, e⟩ := List.mem_map.mp hb
    rw [← e]
    exact ⟨(hT y hy).1, y, hy, rfl⟩
  have aT : a ∉ xs.map (tP K) := fun z => by
    have q := (isT a z).1
    rw [hat] at q
    exact nomatch (show Data.seq us.toArray _ = Data.fields #[] from congrArg Obj.data (Option.some.inj q))
  have go : ∀ H : Hp, OnlyT (xs.map (tP K)) H → SqL K H a (ns.map V.int) → HOk P w H t.heap → (∀ b, H b ≠ none → b = a ∨ b ∈ xs.map (tP K)) → (H a ≠ none → K.lookup a = none) →
      codeAny (model P w) callerA (.call (.ref fa) ⟨[.ref a], []⟩) (fun r s' => r = .ok (.ret (.bool true)) ∧ OldK t.heap s'.heap ∧ s'.os = t.os ∧ AllBare s'.gens) t := by
    intro H only scr hok onlyA notK
    have down : ∀ {b : Addr} {o : Obj}, t.heap.get? b = some o → H b = none → (hidT t.heap H).get? b = some o := fun h1 h2 => hidT_get h1 h2
    -- what is neither a list nor an empty table is not tracked
    have free : ∀ {b : Addr} {o : Obj}, t.heap.get? b = some o → (∀ vs n, o.data ≠ .seq vs n) → o.data ≠ .fields #[] → H b = none := by
      intro b o h1 h2 h3
      cases q : H b with
      | none => rfl
      | some u =>
        rcases onlyA b (by rw [q]; simp) with z | z
        · rw [z, hat] at h1
          cases h1
          exact (h2 _ _ rfl).elim
        · rw [(isT b z).1] at h1
          cases h1
          exact (h3 rfl).elim
    have dictFree : ∀ {b : Addr} {o : Obj} {es : Array DictEntry} {ep : Nat}, t.heap.get? b = some o → o.data = .dict es ep → H b = none := fun h1 h2 =>
      free h1 (fun vs n z => by rw [h2] at z; cases z) fun z => by rw [h2] at z; cases z
    have nsDown : ∀ {b : Addr} {m : Str → Option Value}, t.heap.Ns b m → (hidT t.heap H).Ns b m := fun {b m} ⟨o, es, ep, h1, h2, h3⟩ => ⟨o, es, ep, down h1 (dictFree h1 h2), h2, h3⟩
    have kinB : K.In (hidT t.heap H) := fun b o h1 => down (kin b o h1) (by
      cases q : H b with
      | none => rfl
      | some u =>
        rcases onlyA b (by rw [q]; simp) with z | z
        · subst z
          rw [notK (by rw [q]; simp)] at h1
          cases h1
        · obtain ⟨y, hy, e⟩ := (isT b z).2
          rw [← e, (hT y hy).2.2] at h1
          cases h1)
    have md : Mod K mg (hidT t.heap H) := ⟨kinB, nsDown hg, ⟨mb, nsDown hbi, hboot⟩, let ⟨mc, q1, q2⟩ := hlim; ⟨mc, nsDown q1, q2⟩⟩
    have env : Env0 P w K mg (hidT t.heap H) callerA [] t H := ⟨rfl, md, fun b o h1 => of_hidT h1, Nat.le_of_eq (hidT_size _ _), trivial, fun b hb => (List.not_mem_nil (show b ∈ ([] : List Addr) from hb)).elim, hok, .of_eq hgen⟩
    have tb : TBs K mg (hidT t.heap H) xs := fun y hy => by
      obtain ⟨eT, hd, _⟩ := hT y hy
      refine ⟨?_, ?_, fun z => ?_⟩
      · obtain ⟨o, vs, file, tf, flags, tg, inF, text, tt, e1, r1, r2, r3, r4, r5, r6, r7, r8, hne⟩ := hd
        refine ⟨o, vs, file, tf, flags, tg, inF, text, tt, down e1 (free e1 (fun vs n z => ?_) fun z => ?_), r1, r2, r3, r4, r5, r6, r7, r8, hne⟩
        · rw [r2] at z
          cases z
        · rw [r2] at z
          cases z
          simp at r3
      · obtain ⟨bm, ob, b1, b2, b3, b4, b5, b6⟩ := hbm
        refine ⟨bm, ob, b1, b2, fun z => ?_, fun z => ?_, down b3 (free b3 (fun vs n z => by rw [b6] at z; cases z) fun z => by rw [b6] at z; cases z), b4, b5, b6⟩
        · obtain ⟨o, es, ep, e, hd2, _⟩ := hg
          rw [z, e] at b3
          cases b3
          rw [hd2] at b6
          cases b6
        · rw [z, eT] at b3
          cases b3
          cases b6
      · obtain ⟨o, es, ep, e, hd2, _⟩ := hg
        rw [z, eT] at e
        cases e
        cases hd2
    refine codeAny_mono ((F _ kinB (nsDown hg) ⟨tb, let ⟨mm, z⟩ := hsy; ⟨mm, nsDown z⟩⟩).run callerA [] t H ⟨[.ref a], []⟩ [.ref a] [.ref a] _ _ room rfl env (bnd t (.ref a)) (.cons rfl .nil) (hsp H only scr)) fun r s' h => ?_
    cases r with
    | error e => exact (cx_never h).elim
    | ok fl =>
      cases fl with
      | next => exact False.elim h
      | brk => exact False.elim h
      | cont => exact False.elim h
      | ret u =>
        obtain ⟨v, H', os, bare, un, hok', rv, q⟩ := h
        obtain rfl : v = .bl true := q
        obtain rfl : u = Value.bool true := rv
        have same : ∀ b o, b ∉ xs.map (tP K) → t.heap.get? b = some o → s'.heap.get? b = some o := fun b o nb h1 => by
          cases q : H b with
          | none => exact un.keep b o h1 q (by intro z; exact (List.not_mem_nil (show b ∈ ([] : List Addr) from z)).elim) (by simp)
          | some u =>
            rcases (only b).2 nb with z | ⟨ob, ys, z⟩
            · rw [q] at z
              cases z
            · have z2 := un.frzs b ob _ z
              obtain ⟨q1, _⟩ := hok b _ z
              obtain ⟨q2, _⟩ := hok' b _ z2
              rw [h1] at q1
              cases q1
              exact q2
        have grown : ∀ b, b ∈ xs.map (tP K) → ∃ more : Array Value, s'.heap.get? b = some { cls := .none, data := .fields more } := fun b hb => by
          obtain ⟨more, z⟩ := un.tbls b #[] ((only b).1 hb)
          exact ⟨_, hok' b _ z⟩
        refine ⟨rfl, ⟨fun b o e => ?_, fun b o e => ?_⟩, os, bare⟩
        · by_cases hb : b ∈ xs.map (tP K)
          · obtain ⟨more, hm⟩ := grown b hb
            obtain ⟨y, hy, eb⟩ := (isT b hb).2
            rw [(isT b hb).1] at e
            cases e
            have hd := (hT y hy).2.1
            have he := (hT y hy).1
            rw [eb] at hd he
            exact .inr (.inl ⟨(hd.tab he).isCodeTable, rfl, #[], more, rfl, by rw [Array.empty_append]; exact hm⟩)
          · exact .inl (same b o hb e)
        · by_cases hb : b ∈ xs.map (tP K)
          · obtain ⟨more, hm⟩ := grown b hb
            exact ⟨_, hm⟩
          · exact ⟨o, same b o hb e⟩
  cases hk : K.lookup a with
  | some o =>
    have h1 := kin a o hk
    rw [hat] at h1
    cases h1
    refine go (fun b => if b ∈ xs.map (tP K) then some (.tbl #[]) else none) (fun b => ⟨fun hb => if_pos hb, fun hb => .inl (if_neg hb)⟩) (.inr ⟨_, us.toArray, _, hk, rfl, rfl, rfl, by rw [List.size_toArray, hlen]; exact hle, by simpa using hv⟩) (fun b u z => ?_) (fun b z => ?_) fun z => absurd (show (if a ∈ xs.map (tP K) then some (HO.tbl #[]) else none) = none from if_neg aT) z
    · by_cases hb : b ∈ xs.map (tP K)
      · have z' := (if_pos hb).symm.trans z
        cases z'
        exact (isT b hb).1
      · have z' := (if_neg hb).symm.trans z
        cases z'
    · by_cases hb : b ∈ xs.map (tP K)
      · exact .inr hb
      · exact absurd (if_neg hb) z
  | none =>
    let H1 : Hp := fun b => if b = a then some (.frz { cls := .type "list", data := .seq us.toArray } (.lst (ns.map V.int))) else if b ∈ xs.map (tP K) then some (.tbl #[]) else none
    have h0 : H1 a = some (.frz { cls := .type "list", data := .seq us.toArray } (.lst (ns.map V.int))) := if_pos rfl
    have h2 : ∀ b, b ≠ a → b ∉ xs.map (tP K) → H1 b = none := fun b hb hb2 => (if_neg hb).trans (if_neg hb2)
    have h3 : ∀ b, b ∈ xs.map (tP K) → H1 b = some (.tbl #[]) := fun b hb => (if_neg fun z => aT (by rw [← z]; exact hb)).trans (if_pos hb)
    refine go H1 (fun b => ⟨h3 b, fun hb2 => ?_⟩) (.inl (.inr ⟨_, h0⟩)) (fun b u z => ?_) (fun b z => ?_) fun _ => hk
    · by_cases hb : b = a
      · subst hb
        exact .inr ⟨_, _, h0⟩
      · exact .inl (h2 b hb hb2)
    · by_cases hb : b = a
      · subst hb
        rw [h0] at z
        cases z
        exact ⟨hat, by rw [List.length_map]; exact hle, us, _, hv, hat⟩
      · by_cases hb2 : b ∈ xs.map (tP K)
        · rw [h3 b hb2] at z
          cases z
          exact (isT b hb2).1
        · rw [h2 b hb hb2] at z
          cases z
    · by_cases hb : b = a
      · exact .inl hb
      · by_cases hb2 : b ∈ xs.map (tP K)
        · exact .inr hb2
        · exact absurd (h2 b hb hb2) z
/-- the law over a head by facts, with tables -/
theorem walk_ofS {l : PySem.W.OpenLaw} {n k : Nat} {q : Program} {loose : List Str} {XP : (Str → Option Value) → Heap → Prop} {YP : World → Heap → Prop} {d : DefRec} {x : Str} (xs : List Str)
    (hn : l.most = some n) (hn2 : n ≤ sizeLine) (hdf : d.params.defaults = []) (hr : Room k callerA) (himp : importsNone q = true) (hrec : xs.all (fun y => ((recsOf q).find? fun e => e.name == y).isSome) = true)
    (F : ∀ (w : World) (mg : Str → Option Value) (fa : Addr) (h : Heap), YP w h → h.Ns mainGlobals mg → mg d.name = some (.ref fa) →
      ∃ (K : PySem.W.Frag) (fd : FuncData) (sp : Sp), K.In h ∧ (∀ y ∈ xs, tabIn K y = some (tC K y, tP K y) ∧ K.lookup (tP K y) = none) ∧ (∀ (s : Shared) (u : Value), BindsTo s fd ⟨[u], []⟩ [(x, u)]) ∧
        (∀ (H : Hp) (a : Addr) (ns : List Int), ns.length ≤ n → OnlyT (xs.map (tP K)) H → SqL K H a (ns.map V.int) → sp [.ref a] H (fun v _ => v = .bl true) fun _ _ _ => False) ∧
        ∀ base : Heap, K.In base → base.Ns mainGlobals mg → TBS K mg base xs → FnG l.prog w K mg base k fa fd [x] sp) :
    PySem.W.WalkO q loose XP YP l.row.toRowW d [] (fun f vs => PySem.call f vs) := by
  refine Att.attach_call hn hdf fun w s0 s1 mg mb fa o pm cd doc a us ns gr Y _ _ _ hmg hobj hints hlen hg => ?_
  obtain ⟨K, fd, sp, kin, ht, hb, hsp, hF⟩ := F w mg fa _ Y gr.T.g hmg
  refine head_callS kin gr.T.g gr.T.b gr.T.builtins gr.T.nolimit hg (fun y hy => ?_) gr.T.bmain hobj hints (Nat.le_trans hlen hn2) hr (let ⟨mm, z, _⟩ := (gr.T.seer himp).mods; ⟨mm, z⟩) hF hb fun H h1 h2 => hsp H a ns hlen h1 h2
  have hr' := List.all_eq_true.mp hrec y hy
  obtain ⟨dd, hd⟩ := Option.isSome_iff_exists.mp hr'
  obtain ⟨h1, h2⟩ := tab_of gr.T kin hd (ht y hy).1
  exact ⟨h2, h1, (ht y hy).2⟩
end DL
set_option Elab.async false
set_option linter.all false
set_option maxRecDepth 100000
set_option maxHeartbeats 2000000
namespace PySem.SeqAt
open AutoSeq1 (wpAny_loadPart')
open MeetsSeq
theorem int_eq_declines_dict (b : Int) (u : Tok) (l : Addr) (c : Value) (es : Array DictEntry) (n : Nat) (dd : Option Addr) (sl : Array (Option Value)) :
    Meets (Builtin.«int.__eq__» ⟨[.int b u, .ref l], []⟩) (fun _ R s => s.heap.get? l = some { cls := c, dict := dd, data := .dict es n, slots := sl } ∧ R (.ok (.ret .notImplemented)) s) :=
  .of_wp fun prog w A R s h => by obtain ⟨hp, g, d, tk, os⟩ := s; obtain ⟨hl, h⟩ := h; wp_walk using wpAny_loadPart' hl, wpAny_load hl; exact ⟨_, rfl, h⟩
theorem dict_eq_declines_int (l : Addr) (es : Array DictEntry) (n : Nat) (dd : Option Addr) (sl : Array (Option Value)) (b : Int) (u : Tok) :
    Meets (Builtin.«dict.__eq__» ⟨[.ref l, .int b u], []⟩) (fun _ R s => s.heap.get? l = some { cls := .type "dict", dict := dd, data := .dict es n, slots := sl } ∧ R (.ok (.ret .notImplemented)) s) :=
  .of_wp fun prog w A R s h => by obtain ⟨hp, g, d, tk, os⟩ := s; obtain ⟨hl, h⟩ := h; have f1 := F.sub_int_dict; wp_walk using wpAny_loadPart' hl, wpAny_load hl; exact ⟨_, rfl, h⟩
end PySem.SeqAt
namespace PySem.SeqAt
theorem RcAt.dict_int {A : Around} {s : Shared} {l : Addr} {o : Obj} {es : Array DictEntry} {ep : Nat} (b : Int) (u : Tok) (ho : s.heap.get? l = some o) (hc : o.cls = .type "dict") (hd : o.data = .dict es ep) (hu : A.units < cLine) : RcAt A s (.ref l) (.int b u) false := fun prog w E Q h => by
  obtain ⟨cls, dd, data, sl⟩ := o
  simp only at hc hd
  subst hc hd
  exact rc_eq_decline_or (k := false) ⟨_, ho, rfl⟩ (typeIs_int s b u) (by decide) F.sub_int_dict F.slot_dict_eq F.slot_int_eq_refl
    (fun _ hq => call_meets F.slot_dict_eq ⟨_, ho, rfl⟩ F.entry_dict_eq (F.args_dict_eq_2 _ _) (dict_eq_declines_int l es ep dd sl b u) ⟨ho, hq⟩)
    (fun _ hq => call_meets F.slot_int_eq_refl (typeIs_int s b u) F.entry_int_eq (F.args_int_eq_2 _ _) (int_eq_declines_dict b u l (.type "dict") es ep dd sl) ⟨ho, hq⟩)
    (fun _ hq => wpAny_of_eq (rfl : isSame (.ref l) (.int b u) = pure false) hq) (.inr hu) h
end PySem.SeqAt
namespace DL
open PySem PySem.Spec PySem.W PyProof.Rows L2
def vEqI (K : PySem.W.Frag) (H : Hp) (j : Int) : V → Bool → Prop
  | .int i, k => k = decide (i = j)
  | .bl b, k => k = decide ((if b then 1 else 0) = j)
  | .non, k => k = false
  | .str _, k => k = false
  | .ref a, k => k = false ∧ ((∃ xs, SqL K H a xs) ∨ (∃ xs, SqT K H a xs) ∨ ∃ kvs, Rd H a (.dK kvs))
  | _, _ => False
def rEqI (K : PySem.W.Frag) : R2 := fun x y H Q => ∃ j k, y = .int j ∧ vEqI K H j x k ∧ Q (.bl k) H
theorem beq_dec (a b : Int) : (a == b) = decide (a = b) := by by_cases h : a = b <;> simp [h]
theorem op_eqI {X : Cx} (hu : X.A.units < cLine) : OpR X (compareOp .Eq) (rEqI X.K) := by
  intro pins s σ H x y v u Q I rx ry ⟨j, k, ey, h, q⟩
  subst ey
  obtain ⟨t, rfl⟩ := ry
  have fin : EP X pins σ Q (.bool k) s := ⟨.bl k, H, I, rfl, q⟩
  cases x with
  | int i =>
    obtain ⟨t', rfl⟩ := rx
    obtain rfl : k = _ := h
    rw [← beq_dec] at fin
    exact SeqAt.RcAt.int_int i t' j t _ _ _ _ fin
  | bl b =>
    cases rx
    obtain rfl : k = _ := h
    rw [← beq_dec] at fin
    exact SeqAt.RcAt.bool_int b j t _ _ _ _ fin
  | non =>
    cases rx
    obtain rfl : k = _ := h
    exact SeqAt.RcAt.none_int j t _ _ _ _ fin
  | str x =>
    obtain ⟨t', rfl⟩ := rx
    obtain rfl : k = _ := h
    exact SeqAt.RcAt.str_int x t' j t _ _ _ _ fin
  | ref a =>
    cases rx
    obtain ⟨rfl, h⟩ := h
    rcases h with ⟨xs, h⟩ | ⟨xs, h⟩ | ⟨kvs, h⟩
    · obtain ⟨its, rv, p, _⟩ := I.list h
      exact SeqAt.RcAt.list_int j t p.isList hu _ _ _ _ fin
    · obtain ⟨its, rv, p, _⟩ := I.tuple h
      exact SeqAt.RcAt.tuple_int j t p hu _ _ _ _ fin
    · obtain ⟨_, hs0, vs, kv, o, es, ep, ho, hx, hdt, _, hp, _⟩ := dk_rd I.hok h
      exact SeqAt.RcAt.dict_int j t ho hx.1 hdt hu _ _ _ _ fin
  | _ => exact h.elim
/-- the answer of d == j -/
def D.eqI (j : Int) : D → Bool
  | .int i => decide (i = j)
  | .bl b => decide ((if b then 1 else 0) = j)
  | _ => false
def D.isI : D → Bool
  | .ty _ => false
  | .ref _ => false
  | _ => true
/-- == an int behind it, whatever stands ahead -/
def goEqI : GO := fun d e M Q => match e with
  | .int j => d.isI = true ∧ Q (.bl (d.eqI j)) M
  | _ => False
theorem goEqI_x {d : D} {j : Int} {M : Mem} {Q : D → Mem → Prop} : goEqI d (.int j) M Q = (d.isI = true ∧ Q (.bl (d.eqI j)) M) := propext Iff.rfl
theorem D.isI_da {d : D} (h : d.da = true) : d.isI = true := by cases d <;> first | rfl | exact h
theorem od_eqI {X : Cx} (hu : X.A.units + 64 < cLine) : OpD X (compareOp .Eq) goEqI where
  ex := ⟨_, op_eqI (by omega), fun B E σ H r M O x y d e Q R i1 i2 q => by
    unfold goEqI at q
    split at q
    · obtain ⟨h, q⟩ := q
      refine ⟨_, d.eqI _, is1_int i2, ?_, fin_v R (.bl _) q⟩
      cases d with
      | int i => rw [is1_int i1]; exact rfl
      | bl i => rw [is1_bl i1]; exact rfl
      | str i => rw [is1_str i1]; exact rfl
      | non => cases i1; exact rfl
      | tup ds => obtain ⟨a, vs, rfl, h1, l1⟩ := i1; exact ⟨rfl, .inr (.inl ⟨vs, h1⟩)⟩
      | lst ds => obtain ⟨a, vs, rfl, h1, l1⟩ := i1; exact ⟨rfl, .inl ⟨vs, SqL.of h1⟩⟩
      | dic ds => obtain ⟨a, vs, rfl, h1, l1⟩ := i1; exact ⟨rfl, .inr (.inr ⟨vs, h1⟩)⟩
      | ty n => cases h
      | ref a => cases h
    · exact q.elim⟩
  mono := fun d e M Q Q' h q => by
    unfold goEqI at q ⊢
    split at q
    · exact ⟨q.1, h _ _ q.2⟩
    · exact q
end DL
theorem PySem.IntBool.int___neg___bool_0 (a : Bool) : Gives (Builtin.«int.__neg__» ⟨[.bool a], []⟩) (.int (-(if a = true then (1 : Int) else 0))) :=
  .of_wp fun M A E s Q h => by obtain ⟨hp, g, d, tk, os⟩ := s; wp_walk; exact ⟨_, rfl, h⟩
namespace DL
open PySem PySem.Spec PySem.W PyProof.Rows L2
theorem neg_bool {prog : Program} {w : World} {A : Around} {E : Value → Shared → Prop} {s : Shared} {a : Bool} {Q : Value → Shared → Prop} (h : Q (.int (-(if a = true then (1 : Int) else 0)) s.toks) { s with toks := s.toks + 1 }) : wpAny (model prog w) A (unaryOp .USub (.bool a)) Q E s :=
  unaryOp_gives (op := .USub) (T := "bool") rfl rfl F.slot_bool_neg F.entry_int_neg (F.args_int_neg_1 _) (PySem.IntBool.int___neg___bool_0 a) h
def bI (b : Bool) : Int := if b = true then 1 else 0
/-- a truth and a number, in either order -/
def rB (f : Int → Int → Int) : R2 := fun x y H Q => (∃ b j, x = .bl b ∧ y = .int j ∧ Q (.int (f (bI b) j)) H) ∨ (∃ i b, x = .int i ∧ y = .bl b ∧ Q (.int (f i (bI b))) H)
theorem opB {X : Cx} {f : Value → Value → Sem Value} {g : Int → Int → Int}
    (h1 : ∀ (s : Shared) (b : Bool) (j : Int) (t : Tok) (Q : Value → Shared → Prop), Q (.int (g (bI b) j) s.toks) { s with toks := s.toks + 1 } → wpAny (model X.prog X.w) X.A (f (.bool b) (.int j t)) Q X.xe s)
    (h2 : ∀ (s : Shared) (i : Int) (t : Tok) (b : Bool) (Q : Value → Shared → Prop), Q (.int (g i (bI b)) s.toks) { s with toks := s.toks + 1 } → wpAny (model X.prog X.w) X.A (f (.int i t) (.bool b)) Q X.xe s) : OpR X f (rB g) := by
  intro pins s σ H x y v u Q I rx ry h
  rcases h with ⟨b, j, rfl, rfl, q⟩ | ⟨i, b, rfl, rfl, q⟩
  · cases rx
    obtain ⟨t, rfl⟩ := ry
    exact h1 s b j t _ ⟨.int _, H, I.tok _, ⟨_, rfl⟩, q⟩
  · cases ry
    obtain ⟨t, rfl⟩ := rx
    exact h2 s i t b _ ⟨.int _, H, I.tok _, ⟨_, rfl⟩, q⟩
theorem op_addB {X : Cx} : OpR X (binaryOp .Add) (rB (· + ·)) := opB (fun s b j t Q q => PySem.IntBool.add_bool_int q) (fun s i t b Q q => add_int_bool q)
theorem op_subB {X : Cx} : OpR X (binaryOp .Sub) (rB (· - ·)) := opB (fun s b j t Q q => PySem.IntBool.sub_bool_int q) (fun s i t b Q q => PySem.IntBool.sub_int_bool q)
theorem op_mulB {X : Cx} : OpR X (binaryOp .Mult) (rB (· * ·)) := opB (fun s b j t Q q => PySem.IntBool.mul_bool_int q) (fun s i t b Q q => PySem.IntBool.mul_int_bool q)
/-- .. and what a rule of numbers served ahead -/
def goB (f : Int → Int → Int) (g : GO) : GO := fun d e M Q => match d, e with
  | .bl b, .int j => Q (.int (f (bI b) j)) M
  | .int i, .bl b => Q (.int (f i (bI b))) M
  | d, e => g d e M Q
theorem od_B {X : Cx} {f : Int → Int → Int} {F : Value → Value → Sem Value} {g : GO} (o : OpR X F (rB f)) (h : OpD X F g) : OpD X F (goB f g) where
  ex := by
    obtain ⟨rr, o1, h1⟩ := h.ex
    refine ⟨_, o.or o1, fun B E σ H r M O x y d e Q R i1 i2 q => ?_⟩
    unfold goB at q
    split at q
    · rw [is1_bl i1, is1_int i2]
      exact .inl (.inl ⟨_, _, rfl, rfl, fin_v R (.int _) q⟩)
    · rw [is1_int i1, is1_bl i2]
      exact .inl (.inr ⟨_, _, rfl, rfl, fin_v R (.int _) q⟩)
    · exact .inr (h1 B E σ H r M O x y d e Q R i1 i2 q)
  mono := fun d e M Q Q' k q => by
    unfold goB at q ⊢
    split at q
    · exact k _ _ q
    · exact k _ _ q
    · exact h.mono _ _ _ _ _ k q
theorem od_addI {X : Cx} : OpD X (binaryOp .Add) (goI (fun _ _ => True) fun i j => .int (i + j)) := opd_I (rI_of0 op_add) fun _ _ _ _ => .int _
def goAddB : GO := goB (· + ·) (goI (fun _ _ => True) fun i j => .int (i + j))
def goSubB : GO := goB (· - ·) (goI (fun _ _ => True) fun i j => .int (i - j))
def goMulB : GO := goB (· * ·) (goI CMul fun i j => .int (i * j))
theorem od_addB {X : Cx} : OpD X (binaryOp .Add) goAddB := od_B op_addB od_addI
theorem od_subB {X : Cx} : OpD X (binaryOp .Sub) goSubB := od_B op_subB od_sub
theorem od_mulB {X : Cx} : OpD X (binaryOp .Mult) goMulB := od_B op_mulB od_mulI
section
variable {i j : Int} {b : Bool} {M : Mem} {Q : D → Mem → Prop}
theorem goAddB_ii : goAddB (.int i) (.int j) M Q = Q (.int (i + j)) M := propext ⟨fun h => h.2, fun h => ⟨trivial, h⟩⟩
theorem goAddB_bi : goAddB (.bl b) (.int j) M Q = Q (.int (bI b + j)) M := propext Iff.rfl
theorem goAddB_ib : goAddB (.int i) (.bl b) M Q = Q (.int (i + bI b)) M := propext Iff.rfl
theorem goSubB_ii : goSubB (.int i) (.int j) M Q = Q (.int (i - j)) M := propext ⟨fun h => h.2, fun h => ⟨trivial, h⟩⟩
theorem goSubB_bi : goSubB (.bl b) (.int j) M Q = Q (.int (bI b - j)) M := propext Iff.rfl
theorem goSubB_ib : goSubB (.int i) (.bl b) M Q = Q (.int (i - bI b)) M := propext Iff.rfl
theorem goMulB_ii : goMulB (.int i) (.int j) M Q = (CMul i j ∧ Q (.int (i * j)) M) := propext Iff.rfl
theorem goMulB_bi : goMulB (.bl b) (.int j) M Q = Q (.int (bI b * j)) M := propext Iff.rfl
theorem goMulB_ib : goMulB (.int i) (.bl b) M Q = Q (.int (i * bI b)) M := propext Iff.rfl
end
def guNegB : GU := fun d M Q => match d with
  | .int i => Q (.int (-i)) M
  | .bl b => Q (.int (-(bI b))) M
  | _ => False
theorem guNegB_i {i : Int} {M : Mem} {Q : D → Mem → Prop} : guNegB (.int i) M Q = Q (.int (-i)) M := propext Iff.rfl
theorem guNegB_b {b : Bool} {M : Mem} {Q : D → Mem → Prop} : guNegB (.bl b) M Q = Q (.int (-(bI b))) M := propext Iff.rfl
def rNegB : V → Hp → VK → Prop := fun x H Q => (∃ i, x = .int i ∧ Q (.int (-i)) H) ∨ ∃ b, x = .bl b ∧ Q (.int (-(bI b))) H
theorem un_negB {X : Cx} : UnR X (unaryOp .USub) rNegB := by
  intro pins s σ H x v Q I rx h
  rcases h with ⟨i, rfl, q⟩ | ⟨b, rfl, q⟩
  · obtain ⟨t, rfl⟩ := rx
    exact neg_int ⟨.int _, H, I.tok _, ⟨_, rfl⟩, q⟩
  · cases rx
    exact neg_bool ⟨.int _, H, I.tok _, ⟨_, rfl⟩, q⟩
theorem ud_negB {X : Cx} : UnD X (unaryOp .USub) guNegB where
  ex := ⟨_, un_negB, fun B E σ H r M O x d Q R i1 q => by
    unfold guNegB at q
    split at q
    · rw [is1_int i1]
      exact .inl ⟨_, rfl, fin_v R (.int _) q⟩
    · rw [is1_bl i1]
      exact .inr ⟨_, rfl, fin_v R (.int _) q⟩
    · exact q.elim⟩
  mono := fun d M Q Q' h q => by
    unfold guNegB at q ⊢
    split at q
    · exact h _ _ q
    · exact h _ _ q
    · exact q
end DL
set_option Elab.async false
set_option linter.all false
set_option maxRecDepth 100000
set_option maxHeartbeats 2000000
namespace DL
open PySem PySem.Spec PySem.W PyProof.Rows L2
end DL
set_option Elab.async false
set_option linter.all false
set_option maxRecDepth 100000
set_option maxHeartbeats 2000000
namespace DL
open PySem PySem.Spec PySem.W PyProof.Rows L2 LamX
section
variable {X : Cx} {es : List Expr} {gs : GA} {gb : GE} {n : Nat} {x a : Str} {ks : List AK} {fs : LmT → FS} {pf lpos pos : Pos} {params : Arguments} {body : Expr} {scope : Scope} {q : Str} {c P : Addr}
theorem de_callG (F : DefL X.prog X.w X.K X.mg X.base (n + 2) x a ks fs) (hr : Room (n + 2) X.A) (hgd : X.A.guards = some []) (TB : TabB X.base X.mg c P) (hcode : X.env.code = .ref c) (L : LamS X.env.scope scope) (ha : DAk false X ks es gs)
    (hbody : ∀ (A : Around) (outer : List Env) (s : Shared) (H : Hp) (Ex : XK) (f c' : Addr), Room n (A.deeper (lamEnv X scope s.heap.objs.size f c')) → A.guards = some [] → DE true false (lamCx X A outer s H Ex scope f c') body gb)
    (hbind : ∀ (q : Str) (cl : List (Str × Addr)) (pm cv ctv : Value), bindArgs (PySem.W.kla_fn "<lambda>" q params body scope cl pm cv ctv) ⟨[], []⟩ = pure [])
    (hg : Gl X x := by rfl) (hq : X.env.qual ++ "<lambda>" = q := by rfl) (hv : vks ks = true := by rfl) (hdef : defaultsOf params X.env = ([], []) := by rfl) (hdb : (x == ("__debug__" : Str)) = false := by decide)
    (he : starEach (.Lambda params body scope lpos :: es) X.env = (false, eval (.Lambda params body scope lpos) X.env) :: starEach es X.env := by rfl) (hpl : (backTo pos (starEach es X.env)).any (·.1) = false := by rfl) :
    DE true false X (.Call (.Name x pf) (.Lambda params body scope lpos :: es) [] pos) (gCallL P q fs gb gs) := by
  have hgm := (hbody X.A [] {} (fun _ => none) (fun _ _ _ => True) 0 0 (roomDown (hr.deeper _) (by omega)) hgd).mono
  refine ⟨⟨fun pins s σ H Q I ⟨B, E, r, M, O, R, em, qq⟩ => ?_⟩, fun r M Q Q' h q => ⟨q.1, ha.mono _ _ _ _ (fun ds M1 q1 => F.mo _ (gLamT_mono hgm r) _ _ _ _ _ _ (fun d M' q2 => h _ _ q2) (fun C M' q2 => q2) q1) q.2⟩⟩
  obtain ⟨g, Ng, qg, sg, cdg, FL, hm, hk⟩ := F.ex
  obtain ⟨_, _, ps, hP, ht, old⟩ := R.m.mem P _ em
  refine wpAny_Call_Name_kw (ld_glob I hg hm ?_ hdb)
  refine PySem.W.callWith_K (h₀ := X.base) I.ok.mod.kin hk ?_ he hpl
  rw [he]
  show wpAny _ _ (spliced ((false, eval (.Lambda params body scope lpos) X.env) :: backTo pos (starEach es X.env))) _ _ s
  refine Calls.spliced_cons (lam_new I TB hcode hP ht (fun pos cv z => let ⟨c, e1, e2, _⟩ := old pos cv z; ⟨c, e1, by rw [hq]; exact e2⟩) hdef (L.has I.ok) fun f c' pm ctv H1 s1 I1 hfr t => ?_)
  rw [hq] at t
  obtain ⟨R1, st1, nc⟩ := R.tabled em hP ht old t
  have hc1 := t.co
  have hq2 := ha.on R1 qq (Q := fun vs H2 => ∃ ds M2 O2, Rep X B E σ H2 r M2 O2 ∧ ArgsX X.K (Av B M2 O2) (Mut M2 O2) H2 ks vs ds ∧ Step (Mut M O) H1 (Mut M2 O2) H2 ∧ fs (gLamT gb r) ds M2 (LE true false X B E σ r H M O Q) r.ex) fun ds M2 vs H2 O2 k2 R2 l2 i2 =>
    ⟨ds, M2, O2, R2, i2, l2.2, k2⟩
  refine thn (ha.run.run pos _ s1 σ H1 _ I1 hq2) fun us s2 ⟨vs, H2, I2, rv, ds, M2, O2, R2, i2, st2, k2⟩ => ⟨I2.kIn, ?_⟩
  have hf := ClX.pin_at I2
  have hfn := ClX.pin_un I2
  have J := ClX.unpin I2
  have sA2 : Step (Av B M O) H1 (Av B M2 O2) H2 := fun b o e nb =>
    have n1 : ¬ B b := fun z => nb (.inl z)
    have ⟨h1, h2⟩ := st2 b o e fun z => nb (.inr z)
    ⟨h1, fun z => z.elim n1 h2⟩
  have hc2 := sA2 c' _ hc1 nc
  have rc : codeAny (model X.prog X.w) X.A (.call (.ref g) ⟨.ref f :: us, []⟩) (CR (L2.CX X.prog X.w) X.stack X.prog X.w H2 s2 Q (xk E.W)) s2 := by
    refine FL.run X.A X.stack s2 H2 ⟨f, Av B M2 O2, H2, gLamT gb r⟩ _ us vs (Bs B O2) M2 (drops O2) ds Q (xk E.W) hr hgd J.env0 rv ?_ R2.m.below (drops_flds O2) (by rw [av_bs]; exact argsOkM (fun b z => mut_drops b z) hv i2) (by rw [av_bs]) rfl (gLamT_mono hgm r)
      (lam_pr (σ := σ) (q := q) R2.sl hc2.1 hc2.2 hgm) ?_ ?_
    · have hlen := (argsOkM (K := X.K) (fun b (z : Mut M2 (drops O2) b) => mut_drops b z) hv i2).len
      rw [← rv.length, hlen]
    · exact lam_act J L hf hfn hfr hq R2.len (hbind _ _ _ _ _) hgd (hr.deeper _) fun A outer s H Ex hr' hg' => hbody A outer s H Ex _ _ hr' hg'
    · refine F.mo _ (gLamT_mono hgm r) _ _ _ _ _ _ (fun d M' qq v H' O' h1 _ h3 h4 => ?_) (fun C M' qq H' O' h1 _ h3 => ?_) k2
      · obtain ⟨R', s', e'⟩ := R2.called h1 h3
        refine qq v H' _ R' ⟨fun z => (nomatch z), (st1.trans st2).trans s'⟩ ?_
        rw [e']
        exact h4
      · obtain ⟨R', s', e'⟩ := R2.called h1 h3
        refine ⟨C, rfl, rfl, R2.exc C M' H' _ (R'.m.subB R2.sub) R'.ent ?_⟩
        rw [← R2.xe]
        exact qq
  refine wpAny_call (codeAny_mono rc fun r s' hq => ?_)
  cases r with
  | error e => exact R2.ps pins σ H2 s2 e s' J hq
  | ok fl =>
    cases fl with
    | ret u => exact J.after hq
    | next => exact hq.elim
    | brk => exact hq.elim
    | cont => exact hq.elim
end
end DL
namespace LW
open PySem PySem.Spec PySem.W PyProof.Rows L2 DL
local macro_rules | `(tactic| wp_walk) => `(tactic| simp only [gSeq, gSet, gRet, gRetN, gNext, gIfS, gDrop, gOwn, gApp, gExt, gForM, gLcM, gCnt, gTryV, gTryE, gxP, gxM, DL.Fr.mute, gIPut, gFrz, frz, gAsg, gPar, gPar3, gAug, gRaise, gRetM, gSetM, gMPut, gMGet, g1, g2, gC, gV, gVw, gB, gAnd, gOr, gNot, gNotV, gIf, DL.gCons, DL.gNil, DL.gTup, DL.gLst, gFl, gFd, gCa, gLenS, gPart, gNoP, gDisp, gPcons, gPnil, gtN, gtTup, gtCons, gtNil, gYes, gFor, gLc, giS, gCallP, gCallM, gScr, entry, aSls, aSl, DL.Fr.set, OM.d, wipeF, wipeS, keyD, List.length_cons, List.length_nil, List.cons_append, List.nil_append, List.append_nil, List.replicate_succ, List.replicate_zero, List.getElem?_cons_zero, List.getElem?_cons_succ, List.getElem?_nil, List.set_cons_zero, List.set_cons_succ, Nat.reduceAdd, Nat.reduceSub, if_true, if_false, ite_true, ite_false, reduceIte, Bool.false_eq_true, Bool.not_true, Bool.not_false, List.all_cons, List.all_nil, Bool.and_true, true_and, and_true, List.map_cons, List.map_nil, gIdx, ixT_ints, intsOf_map, Int.reduceToNat, Option.some.injEq, exists_eq_left', goAdd_int, goAdd_str, goAdd_tup, goAdd_lst, goAddW_int, goAddW_lst, goPlus_int, goI_int, guI_int, gcI1_int, goIx_lst, gcLen_lst, gcTupleS_lst, gcList_lst, goRevA_lst, goIx_tup, gcLen_tup, gcTupleS_tup, gcList_tup, goRevA_tup, gcTuple_lst, goIx_str, gcLen_str, gcInt_int, gcInt_bl, goMulT_tup, goMulL_lst, goIsB_bl, goIsN_non, isN_int, isN_bl, isN_str, isN_tup, isN_lst, isN_dic, isN_ref, isN_ty, isN_non, gTru_k, truK_non, truK_bl, truK_int, truK_lst, truK_tup, truK_str, gFlist_k, lstK_lst, lstK_tup, gsSl_k, slK_lst, slK_tup, slK_str, itsD_k, itsK_lst, itsK_tup, giZip_k, zipK_lst, zipK_tup, giR1_k, ran1K_nat, ran1K_int, giR2_k, ran2K_int, goLtA_int, goLtA_tup, ok_non, eqv_bl, goEq_int, goNe_int, goEq_bl, goNe_bl, gcMin_ints, gcMinT_ints, gcMax_ints, gcMaxT_ints, intsOf_mapf, blsOf_mapf, gcMin_f, gcMax_f, gcMin_2, gcMax_2, gcSum_ints, gcSum_f, gcBls_f, all_mapid, any_mapid, at_0, at_1, at_2, at_3, at_last, noOwn_nil, noOwn_1, noOwn_2, nof_n, nof_v, nof_b, nof_s, zipD_map, enumD_map, isi_non_int, isi_non_bool, isi_non_str, isi_non_tuple, isi_non_list, isi_non_dict, isi_bl_int, isi_bl_bool, isi_bl_str, isi_bl_tuple, isi_bl_list, isi_bl_dict, isi_int_int, isi_int_bool, isi_int_str, isi_int_tuple, isi_int_list, isi_int_dict, isi_str_int, isi_str_bool, isi_str_str, isi_str_tuple, isi_str_list, isi_str_dict, isi_tup_int, isi_tup_bool, isi_tup_str, isi_tup_tuple, isi_tup_list, isi_tup_dict, isi_lst_int, isi_lst_bool, isi_lst_str, isi_lst_tuple, isi_lst_list, isi_lst_dict, isi_dic_int, isi_dic_bool, isi_dic_str, isi_dic_tuple, isi_dic_list, isi_dic_dict, gcAll, gcAny, goMod, goFdiv, decide_eq_true_eq, Bool.not_eq_true', decide_eq_false_iff_not, ite_not, Bool.and_eq_true, not_false_eq_true, Bool.not_eq_true, List.map_append, Int.zero_add, List.any_cons, List.any_nil, Bool.true_and, Bool.or_false, Bool.xor_false, Bool.false_xor, Bool.true_xor, Bool.not_not, forall_const, Int.toNat_natCast, List.length_map, List.length_append, and_self, ne_eq, List.map_eq_nil_iff, not_true_eq_false, eq_self, goMulI, goSub, goPow, goLe, goGt, goGe, guNeg, gcAbs, goEq_str, goNe_str, goEq_tup, goNe_tup, goEq_lst, goNe_lst, goEq_non, goNe_non, gAndV_k, gOrV_k, gCh_k, blK_bl, ite_bf, reduceCtorEq, Int.reducePow, Int.reduceLT, Int.reduceLE, Int.reduceNeg, sz0, se0, sz1, se1, sz2, se2, sz3, se3, sz4, se4, sz5, se5, sz6, se6, sz7, se7, sz8, se8, sz9, se9, gFld, fldK_ref, gPutF, gPutFM, putFK_ref, gDrf, drfK_ref, gMApp, mlK_ref, gMPop, popK_int, gMIns, ins2K_2, insK_int, gMeth, mthK_ref, gMake, giR3, gFlR1, gFlR2, rg2K_int, gLenSet, lenSetK_lst, lenSetK_tup, gMinD, minDK_lst, giMem, giBA, gMIdx, goTab, gFsort, sortK_lst, sortK_tup])
local macro_rules | `(tactic| wp_walk using $ts,*) => `(tactic| simp only [$[$ts:term],*, gSeq, gSet, gRet, gRetN, gNext, gIfS, gDrop, gOwn, gApp, gExt, gForM, gLcM, gCnt, gTryV, gTryE, gxP, gxM, DL.Fr.mute, gIPut, gFrz, frz, gAsg, gPar, gPar3, gAug, gRaise, gRetM, gSetM, gMPut, gMGet, g1, g2, gC, gV, gVw, gB, gAnd, gOr, gNot, gNotV, gIf, DL.gCons, DL.gNil, DL.gTup, DL.gLst, gFl, gFd, gCa, gLenS, gPart, gNoP, gDisp, gPcons, gPnil, gtN, gtTup, gtCons, gtNil, gYes, gFor, gLc, giS, gCallP, gCallM, gScr, entry, aSls, aSl, DL.Fr.set, OM.d, wipeF, wipeS, keyD, List.length_cons, List.length_nil, List.cons_append, List.nil_append, List.append_nil, List.replicate_succ, List.replicate_zero, List.getElem?_cons_zero, List.getElem?_cons_succ, List.getElem?_nil, List.set_cons_zero, List.set_cons_succ, Nat.reduceAdd, Nat.reduceSub, if_true, if_false, ite_true, ite_false, reduceIte, Bool.false_eq_true, Bool.not_true, Bool.not_false, List.all_cons, List.all_nil, Bool.and_true, true_and, and_true, List.map_cons, List.map_nil, gIdx, ixT_ints, intsOf_map, Int.reduceToNat, Option.some.injEq, exists_eq_left', goAdd_int, goAdd_str, goAdd_tup, goAdd_lst, goAddW_int, goAddW_lst, goPlus_int, goI_int, guI_int, gcI1_int, goIx_lst, gcLen_lst, gcTupleS_lst, gcList_lst, goRevA_lst, goIx_tup, gcLen_tup, gcTupleS_tup, gcList_tup, goRevA_tup, gcTuple_lst, goIx_str, gcLen_str, gcInt_int, gcInt_bl, goMulT_tup, goMulL_lst, goIsB_bl, goIsN_non, isN_int, isN_bl, isN_str, isN_tup, isN_lst, isN_dic, isN_ref, isN_ty, isN_non, gTru_k, truK_non, truK_bl, truK_int, truK_lst, truK_tup, truK_str, gFlist_k, lstK_lst, lstK_tup, gsSl_k, slK_lst, slK_tup, slK_str, itsD_k, itsK_lst, itsK_tup, giZip_k, zipK_lst, zipK_tup, giR1_k, ran1K_nat, ran1K_int, giR2_k, ran2K_int, goLtA_int, goLtA_tup, ok_non, eqv_bl, goEq_int, goNe_int, goEq_bl, goNe_bl, gcMin_ints, gcMinT_ints, gcMax_ints, gcMaxT_ints, intsOf_mapf, blsOf_mapf, gcMin_f, gcMax_f, gcMin_2, gcMax_2, gcSum_ints, gcSum_f, gcBls_f, all_mapid, any_mapid, at_0, at_1, at_2, at_3, at_last, noOwn_nil, noOwn_1, noOwn_2, nof_n, nof_v, nof_b, nof_s, zipD_map, enumD_map, isi_non_int, isi_non_bool, isi_non_str, isi_non_tuple, isi_non_list, isi_non_dict, isi_bl_int, isi_bl_bool, isi_bl_str, isi_bl_tuple, isi_bl_list, isi_bl_dict, isi_int_int, isi_int_bool, isi_int_str, isi_int_tuple, isi_int_list, isi_int_dict, isi_str_int, isi_str_bool, isi_str_str, isi_str_tuple, isi_str_list, isi_str_dict, isi_tup_int, isi_tup_bool, isi_tup_str, isi_tup_tuple, isi_tup_list, isi_tup_dict, isi_lst_int, isi_lst_bool, isi_lst_str, isi_lst_tuple, isi_lst_list, isi_lst_dict, isi_dic_int, isi_dic_bool, isi_dic_str, isi_dic_tuple, isi_dic_list, isi_dic_dict, gcAll, gcAny, goMod, goFdiv, decide_eq_true_eq, Bool.not_eq_true', decide_eq_false_iff_not, ite_not, Bool.and_eq_true, not_false_eq_true, Bool.not_eq_true, List.map_append, Int.zero_add, List.any_cons, List.any_nil, Bool.true_and, Bool.or_false, Bool.xor_false, Bool.false_xor, Bool.true_xor, Bool.not_not, forall_const, Int.toNat_natCast, List.length_map, List.length_append, and_self, ne_eq, List.map_eq_nil_iff, not_true_eq_false, eq_self, goMulI, goSub, goPow, goLe, goGt, goGe, guNeg, gcAbs, goEq_str, goNe_str, goEq_tup, goNe_tup, goEq_lst, goNe_lst, goEq_non, goNe_non, gAndV_k, gOrV_k, gCh_k, blK_bl, ite_bf, reduceCtorEq, Int.reducePow, Int.reduceLT, Int.reduceLE, Int.reduceNeg, sz0, se0, sz1, se1, sz2, se2, sz3, se3, sz4, se4, sz5, se5, sz6, se6, sz7, se7, sz8, se8, sz9, se9, gFld, fldK_ref, gPutF, gPutFM, putFK_ref, gDrf, drfK_ref, gMApp, mlK_ref, gMPop, popK_int, gMIns, ins2K_2, insK_int, gMeth, mthK_ref, gMake, giR3, gFlR1, gFlR2, rg2K_int, gLenSet, lenSetK_lst, lenSetK_tup, gMinD, minDK_lst, giMem, giBA, gMIdx, goTab, gFsort, sortK_lst, sortK_tup])
variable {K : PySem.W.Frag}
/-- what a choosing may take -/
def preTake (r : List D) : Prop := ∃ m : Int, r = [.int m] ∧ 1 ≤ m ∧ m ≤ 1000001
def postTake (r : List D) (d : D) : Prop := ∃ m n : Int, r = [.int m] ∧ d = .int n ∧ 0 ≤ n ∧ n < m
def fs_l_begun (K : PySem.W.Frag) : FS := BegunF
theorem mo_l_begun : MonoF BegunR := begunR_mono
/-- _law_begun -/
def g_l_begun (K : PySem.W.Frag) : GS := gRetM (gDisp (gPcons "cells" (gFd (gLc (giS 0) (gtN 1) (gYes) (gCa gcAbs (gCons (gV 1) gNil)) [1])) (gPcons "at" (gC (.int 0)) (gPcons "rest" (gC (.int 0)) (gPcons "turn" (gC (.int 0)) (gPcons "more" (g2 goAdd (gC (.int 7)) (gLenS 0)) (gPnil)))))))
theorem v_cells {ns : List Int} {a r t m : Int} : valD (stD ns a r t m) (.inr "cells") = some (.lst (ns.map .int)) := rfl
theorem v_at {ns : List Int} {a r t m : Int} : valD (stD ns a r t m) (.inr "at") = some (.int a) := rfl
theorem v_rest {ns : List Int} {a r t m : Int} : valD (stD ns a r t m) (.inr "rest") = some (.int r) := rfl
theorem v_turn {ns : List Int} {a r t m : Int} : valD (stD ns a r t m) (.inr "turn") = some (.int t) := rfl
theorem v_more {ns : List Int} {a r t m : Int} : valD (stD ns a r t m) (.inr "more") = some (.int m) := rfl
theorem p_at {ns : List Int} {a r t m x : Int} : putD (stD ns a r t m) (.inr "at") (.int x) = stD ns x r t m := rfl
theorem p_rest {ns : List Int} {a r t m x : Int} : putD (stD ns a r t m) (.inr "rest") (.int x) = stD ns a x t m := rfl
theorem p_turn {ns : List Int} {a r t m x : Int} : putD (stD ns a r t m) (.inr "turn") (.int x) = stD ns a r x m := rfl
theorem p_more {ns : List Int} {a r t m x : Int} : putD (stD ns a r t m) (.inr "more") (.int x) = stD ns a r t x := rfl
theorem st_len {ns : List Int} {a r t m : Int} : (stD ns a r t m).length < sizeLine := size_lt (by show 5 ≤ _; omega)
theorem h_l_begun : ∀ ds M Q X, BegunR ds M Q X → ds.length = ([.s] : List AK).length → g_l_begun K { nx := fun _ M' => Q .non M', rt := Q } (entry 2 [.s] ds X) M := by
  rintro ds M Q X ⟨ns, rfl, hl, q⟩ -
  wp_walk using g_l_begun, intsOf_map, goAdd
  refine lc_map (fun d => match d with | .int k => .int (if k < 0 then -k else k) | _ => .non) (fun d hd Q' q' => ?_) (size_of (by simp; omega)) ?_
  · obtain ⟨c, hc', rfl⟩ := List.mem_map.mp hd
    wp_walk
    exact q'
  · intro a na
    refine q a _ na ⟨ns.map fun k => if k < 0 then -k else k, 0, 0, 0, 7 + ns.length, ?_, by rw [List.length_map]; exact hl, fun n hn => ?_, by omega, by omega, by omega, by omega, by omega⟩
    · rw [List.nil_append, List.map_map]
      have e : ((fun d => match d with | .int k => D.int (if k < 0 then -k else k) | _ => .non) ∘ D.int) = D.int ∘ fun k => if k < 0 then -k else k := rfl
      rw [e, ← List.map_map]
      rfl
    · obtain ⟨k, _, rfl⟩ := List.mem_map.mp hn
      split <;> omega
def fs_l_take (K : PySem.W.Frag) : FS := DrawF preTake postTake
theorem mo_l_take : MonoF (RawF preTake postTake) := rawF_mono
/-- _law_take -/
def af1_l_take (K : PySem.W.Frag) : GS := gMPut (gV 0) (gC (.str "at")) (g2 goAdd (gMGet (gV 0) (gC (.str "at"))) (gC (.int 1)))
def lp1_l_take (K : PySem.W.Frag) : GS := gSeq (gIfS (gB (g2 goGe (g2 goIx (gV 2) (gMGet (gV 0) (gC (.str "at")))) (g2 goPow (gC (.int 10)) (gC (.int 18))))) (gMPut (gV 0) (gC (.str "rest")) (g2 goIx (gV 2) (gMGet (gV 0) (gC (.str "at"))))) (gNext)) (af1_l_take K)
def af2_l_take (K : PySem.W.Frag) : GS := gSeq (gMPut (gV 0) (gC (.str "turn")) (g2 goAdd (gMGet (gV 0) (gC (.str "turn"))) (gC (.int 1)))) (gSeq (gMPut (gV 0) (gC (.str "more")) (g2 goMod (g2 goAdd (g2 goAdd (g2 goMulI (gMGet (gV 0) (gC (.str "more"))) (gC (.int 48271))) (gV 4)) (gMGet (gV 0) (gC (.str "turn")))) (gC (.int 2147483647)))) (gRet (g2 goMod (g2 goMod (g2 goAdd (g2 goMulI (gMGet (gV 0) (gC (.str "more"))) (gMGet (gV 0) (gC (.str "more")))) (g2 goMulI (gC (.int 16807)) (gMGet (gV 0) (gC (.str "more"))))) (gC (.int 2147483629))) (gV 1))))
def af3_l_take (K : PySem.W.Frag) : GS := gSeq (gSet 4 (gC (.int 0))) (gSeq (gIfS (gB (g2 goGt (gCa gcLen (gCons (gV 2) gNil)) (gC (.int 0)))) (gSet 4 (g2 goIx (gV 2) (g2 goMod (gMGet (gV 0) (gC (.str "turn"))) (gCa gcLen (gCons (gV 2) gNil))))) (gNext)) (af2_l_take K))
def af4_l_take (K : PySem.W.Frag) : GS := gSeq (gIfS (gB (g2 goGt (gMGet (gV 0) (gC (.str "rest"))) (gC (.int 1)))) (gSeq (gSet 3 (g2 goMod (gMGet (gV 0) (gC (.str "rest"))) (gV 1))) (gSeq (gMPut (gV 0) (gC (.str "rest")) (g2 goFdiv (gMGet (gV 0) (gC (.str "rest"))) (gV 1))) (gRet (gV 3)))) (gNext)) (af3_l_take K)
def g_l_take (K : PySem.W.Frag) : GS := gSeq (gSet 2 (gMGet (gV 0) (gC (.str "cells")))) (gSeq (gWhile (gAnd (gB (g2 goLtA (gMGet (gV 0) (gC (.str "rest"))) (gC (.int 2)))) (gB (g2 goLtA (gMGet (gV 0) (gC (.str "at"))) (gCa gcLen (gCons (gV 2) gNil))))) (lp1_l_take K)) (af4_l_take K))
theorem h_l_take : ∀ ds M Q X, RawF preTake postTake ds M Q X → ds.length = ([.v, .v] : List AK).length → g_l_take K { nx := fun _ M' => Q .non M', rt := Q } (entry 5 [.v, .v] ds X) M := by
  rintro ds M Q X ⟨a, r, kds, rfl, ms, ⟨ns, at_, rest, turn, more, rfl, hl, hn, a0, r0, t0, m0, m1⟩, ⟨many, rfl, y0, y1⟩, q⟩ -
  have fin : ∀ (n : Int) (at_ rest turn more : Int), 0 ≤ n → n < many → 0 ≤ at_ → 0 ≤ rest → 0 ≤ turn → 0 ≤ more → more < 2147483648 → Q (.int n) (mup M a (.om (.dic (stD ns at_ rest turn more)))) :=
    fun n at_ rest turn more h1 h2 h3 h4 h5 h6 h7 => q _ _ ⟨many, n, rfl, rfl, h1, h2⟩ ⟨ns, at_, rest, turn, more, rfl, hl, hn, h3, h4, h5, h6, h7⟩
  wp_walk using g_l_take, ms, v_cells
  refine ⟨fun m r M' => ∃ at_ rest turn more : Int, M' = mup M a (.om (.dic (stD ns at_ rest turn more))) ∧ r = ⟨[.v (.ref a), .v (.int many), .v (.lst (ns.map .int)), .n, .n], X⟩ ∧ 0 ≤ at_ ∧ 0 ≤ rest ∧ 0 ≤ turn ∧ 0 ≤ more ∧ more < 2147483648 ∧ m = ((ns.length : Int) - at_).toNat,
    ⟨_, at_, rest, turn, more, (mup_self ms).symm, rfl, a0, r0, t0, m0, m1, rfl⟩, ?_⟩
  rintro m r M' ⟨at_, rest, turn, more, rfl, rfl, a0, r0, t0, m0, m1, rfl⟩
  have rest_ : af4_l_take K { nx := fun x M' => Q D.non M', rt := Q } ⟨[.v (.ref a), .v (.int many), .v (.lst (ns.map .int)), .n, .n], X⟩ (mup M a (.om (.dic (stD ns at_ rest turn more)))) := by
    wp_walk using af4_l_take, mup_same, v_rest, goMod, goFdiv
    by_cases h : 1 < rest
    · rw [if_pos h]
      refine ⟨by omega, ⟨by omega, ?_⟩, st_len, ?_⟩
      · have := Nat.log2_lt (n := many.natAbs) (k := 9000) (by omega)
        exact (this.mpr (Nat.lt_of_lt_of_le (show many.natAbs < 2 ^ 20 by omega) (Nat.pow_le_pow_right (by decide) (by decide))))
      · rw [mup_mup, p_rest]
        exact fin _ _ _ _ _ (Int.emod_nonneg _ (by omega)) (Int.emod_lt_of_pos _ (by omega)) a0 (Int.ediv_nonneg (by omega) (by omega)) t0 m0 m1
    · rw [if_neg h]
      have tail : ∀ c : Int, 0 ≤ c → af2_l_take K { nx := fun x M' => Q D.non M', rt := Q } ⟨[.v (.ref a), .v (.int many), .v (.lst (ns.map .int)), .n, .v (.int c)], X⟩ (mup M a (.om (.dic (stD ns at_ rest turn more)))) := fun c c0 => by
        wp_walk using af2_l_take, mup_same, v_turn, goAdd
        refine ⟨st_len, ?_⟩
        rw [mup_mup, p_turn]
        wp_walk using mup_same, v_more, v_turn
        refine ⟨.inr ⟨by decide, by decide⟩, st_len, ?_⟩
        rw [mup_mup, p_more]
        have y0 : 0 ≤ (more * 48271 + c + (turn + 1)) % 2147483647 := Int.emod_nonneg _ (by decide)
        have y1 : (more * 48271 + c + (turn + 1)) % 2147483647 < 2147483647 := Int.emod_lt_of_pos _ (by decide)
        generalize (more * 48271 + c + (turn + 1)) % 2147483647 = y at y0 y1 ⊢
        wp_walk using mup_same, v_more
        exact ⟨.inl ⟨by omega, by omega⟩, .inl ⟨by decide, by decide⟩, by omega, fin _ _ _ _ _ (Int.emod_nonneg _ (by omega)) (Int.emod_lt_of_pos _ (by omega)) a0 r0 (by omega) y0 (by omega)⟩
      wp_walk using af3_l_take, List.length_map
      by_cases h0 : (0 : Int) < (ns.length : Nat)
      · rw [if_pos h0]
        have t1 := Int.emod_nonneg turn (show ((ns.length : Nat) : Int) ≠ 0 by omega)
        have t2 := Int.emod_lt_of_pos turn h0
        obtain ⟨z, hz, hz2, _⟩ := atI_in (xs := ns.map D.int) t1 (by rw [List.length_map]; exact t2)
        obtain ⟨c, hc, rfl⟩ := List.mem_map.mp hz2
        wp_walk using mup_same, v_turn, goMod, List.length_map, hz
        exact ⟨h0, tail c (hn c hc)⟩
      · rw [if_neg h0]
        exact tail 0 (by decide)
  wp_walk using mup_same, v_rest, v_at, List.length_map
  by_cases h1 : rest < 2
  · rw [if_pos h1]
    by_cases h2 : at_ < (ns.length : Nat)
    · rw [if_pos h2]
      obtain ⟨z, hz, hz2, _⟩ := atI_in (xs := ns.map D.int) a0 (by rw [List.length_map]; exact h2)
      obtain ⟨c, hc, rfl⟩ := List.mem_map.mp hz2
      have tail : ∀ (DD : DEnds) (rest : Int), DD.nx ⟨[.v (.ref a), .v (.int many), .v (.lst (ns.map .int)), .n, .n], X⟩ (mup M a (.om (.dic (stD ns (at_ + 1) rest turn more)))) →
          af1_l_take K DD ⟨[.v (.ref a), .v (.int many), .v (.lst (ns.map .int)), .n, .n], X⟩ (mup M a (.om (.dic (stD ns at_ rest turn more)))) := fun DD rest h => by
        wp_walk using af1_l_take, mup_same, v_at, goAdd
        refine ⟨st_len, ?_⟩
        rw [mup_mup, p_at]
        exact h
      have nxt : ∀ rest : Int, 0 ≤ rest → ∃ m', m' < ((ns.length : Int) - at_).toNat ∧ ∃ at_' rest' turn' more' : Int, mup M a (.om (.dic (stD ns (at_ + 1) rest turn more))) = mup M a (.om (.dic (stD ns at_' rest' turn' more'))) ∧
          (⟨[.v (.ref a), .v (.int many), .v (.lst (ns.map .int)), .n, .n], X⟩ : DL.Fr) = ⟨[.v (.ref a), .v (.int many), .v (.lst (ns.map .int)), .n, .n], X⟩ ∧ 0 ≤ at_' ∧ 0 ≤ rest' ∧ 0 ≤ turn' ∧ 0 ≤ more' ∧ more' < 2147483648 ∧ m' = ((ns.length : Int) - at_').toNat :=
        fun rest r0 => ⟨((ns.length : Int) - (at_ + 1)).toNat, by omega, at_ + 1, rest, turn, more, rfl, rfl, by omega, r0, t0, m0, m1, rfl⟩
      wp_walk using lp1_l_take, mup_same, v_at, hz, goPow
      refine ⟨⟨by decide, by decide, by decide⟩, ?_⟩
      split
      · refine ⟨st_len, ?_⟩
        rw [mup_mup, p_rest]
        exact tail _ c (nxt c (hn c hc))
      · exact tail _ rest (nxt rest r0)
    · rw [if_neg h2]
      exact rest_
  · rw [if_neg h1]
    exact rest_
theorem take_of {M : Mem} {a : Addr} {m : Int} {Q : D → Mem → Prop} {X : Addr → Mem → Prop} (ms : M a = some .st) (h1 : 1 ≤ m) (h2 : m ≤ 1000001) (h : ∀ n : Int, 0 ≤ n → n < m → Q (.int n) M) : fs_l_take K [.ref a, .int m] M Q X :=
  ⟨a, _, rfl, ms, ⟨m, rfl, h1, h2⟩, fun d ⟨m', n, e, e2, h3, h4⟩ => by cases e; subst e2; exact h n h3 h4⟩
def seqOf : D → Option (List D)
  | .lst xs => some xs
  | .tup xs => some xs
  | _ => none
def fs_l_pick (K : PySem.W.Frag) : FS := DrawF (fun r => ∃ d xs, r = [d] ∧ seqOf d = some xs ∧ 0 < xs.length ∧ xs.length ≤ 1000000) fun r z => ∃ d xs, r = [d] ∧ seqOf d = some xs ∧ z ∈ xs
theorem mo_l_pick {K : PySem.W.Frag} : MonoF (fs_l_pick K) := drawF_mono
/-- _law_pick -/
def g_l_pick (K : PySem.W.Frag) : GS := gRet (g2 goIx (gV 1) (gCallM (fs_l_take K) (gCons (gV 0) (gCons (gCa gcLen (gCons (gV 1) gNil)) gNil))))
theorem h_l_pick {K : PySem.W.Frag} : ∀ ds M Q X, (fs_l_pick K) ds M Q X → ds.length = ([.v, .v] : List AK).length → g_l_pick K { nx := fun _ M' => Q .non M', rt := Q } (entry 2 [.v, .v] ds X) M := by
  rintro ds M Q X ⟨a, r, rfl, ms, ⟨d, xs, rfl, hs, h0, h1⟩, q⟩ -
  cases d <;> simp only [seqOf, reduceCtorEq, Option.some.injEq] at hs <;> subst hs
  all_goals
    wp_walk using g_l_pick
    refine take_of ms (by omega) (by omega) fun n n0 n1 => ?_
    obtain ⟨z, e, hz, _⟩ := atI_in n0 n1
    wp_walk using e
    exact q z ⟨_, _, rfl, rfl, hz⟩
theorem pick_of {M : Mem} {a : Addr} {d : D} {xs : List D} {Q : D → Mem → Prop} {X : Addr → Mem → Prop} (ms : M a = some .st) (hs : seqOf d = some xs) (h1 : 0 < xs.length) (h2 : xs.length ≤ 1000000) (h : ∀ z ∈ xs, Q z M) : fs_l_pick K [.ref a, d] M Q X :=
  ⟨a, _, rfl, ms, ⟨d, xs, rfl, hs, h1, h2⟩, fun z ⟨d', ys, e, e2, hd⟩ => by
    cases e
    rw [hs] at e2
    cases e2
    exact h z hd⟩
def fs_l_size (K : PySem.W.Frag) : FS := DrawF (fun r => ∃ b : Int, r = [.int b] ∧ 0 ≤ b ∧ b ≤ 1000) fun r d => ∃ b n : Int, r = [.int b] ∧ d = .int n ∧ 0 ≤ n ∧ n ≤ b
theorem mo_l_size {K : PySem.W.Frag} : MonoF (fs_l_size K) := drawF_mono
/-- _law_size -/
def g_l_size (K : PySem.W.Frag) : GS := gSeq (gSet 2 (gLst (gCons (gCallM (fs_l_take K) (gCons (gV 0) (gCons (gC (.int 8)) gNil))) (gCons (gCallM (fs_l_take K) (gCons (gV 0) (gCons (gC (.int 20)) gNil))) (gCons (gCallM (fs_l_take K) (gCons (gV 0) (gCons (g2 goAdd (gV 1) (gC (.int 1))) gNil))) (gCons (gC (.int 0)) (gCons (gV 1) (gCons (gC (.int 9)) gNil)))))))) (gRet (g2 goMod (gCallM (fs_l_pick K) (gCons (gV 0) (gCons (gV 2) gNil))) (g2 goAdd (gV 1) (gC (.int 1)))))
theorem h_l_size : ∀ ds M Q X, (fs_l_size K) ds M Q X → ds.length = ([.v, .v] : List AK).length → g_l_size K { nx := fun _ M' => Q .non M', rt := Q } (entry 3 [.v, .v] ds X) M := by
  rintro ds M Q X ⟨a, r, rfl, ms, ⟨b, rfl, b0, b1⟩, q⟩ -
  wp_walk using g_l_size
  refine take_of ms (by omega) (by omega) fun n1 a1 c1 => take_of ms (by omega) (by omega) fun n2 a2 c2 => take_of ms (by omega) (by omega) fun n3 a3 c3 => pick_of ms rfl (by simp) (by simp) fun d hd => ?_
  have fin : ∀ n : Int, 0 ≤ n → goMod (.int n) (.int (b + 1)) M Q := fun n hn => ⟨by omega, q _ ⟨b, _, rfl, rfl, Int.emod_nonneg _ (by omega), by have := Int.emod_lt_of_pos n (show 0 < b + 1 by omega); omega⟩⟩
  simp only [List.mem_cons, List.not_mem_nil, or_false] at hd
  rcases hd with rfl | rfl | rfl | rfl | rfl | rfl <;> exact fin _ (by omega)
theorem size_dr {M : Mem} {a : Addr} {b : Int} {Q : D → Mem → Prop} {X : Addr → Mem → Prop} (ms : M a = some .st) (h0 : 0 ≤ b) (h1 : b ≤ 1000) (h : ∀ n : Int, 0 ≤ n → n ≤ b → Q (.int n) M) : fs_l_size K [.ref a, .int b] M Q X :=
  ⟨a, _, rfl, ms, ⟨b, rfl, h0, h1⟩, fun d ⟨b', n, e, e2, h3, h4⟩ => by cases e; subst e2; exact h n h3 h4⟩
end LW
namespace LW
open PySem PySem.Spec PySem.W PyProof.Rows L2 DL
local macro_rules | `(tactic| wp_walk) => `(tactic| simp only [gSeq, gSet, gRet, gRetN, gNext, gIfS, gDrop, gOwn, gApp, gExt, gForM, gLcM, gCnt, gTryV, gTryE, gxP, gxM, DL.Fr.mute, gIPut, gFrz, frz, gAsg, gPar, gPar3, gAug, gRaise, gRetM, gSetM, gMPut, gMGet, g1, g2, gC, gV, gVw, gB, gAnd, gOr, gNot, gNotV, gIf, DL.gCons, DL.gNil, DL.gTup, DL.gLst, gFl, gFd, gCa, gLenS, gPart, gNoP, gDisp, gPcons, gPnil, gtN, gtTup, gtCons, gtNil, gYes, gFor, gLc, giS, gCallP, gCallM, gScr, entry, aSls, aSl, DL.Fr.set, OM.d, wipeF, wipeS, keyD, List.length_cons, List.length_nil, List.cons_append, List.nil_append, List.append_nil, List.replicate_succ, List.replicate_zero, List.getElem?_cons_zero, List.getElem?_cons_succ, List.getElem?_nil, List.set_cons_zero, List.set_cons_succ, Nat.reduceAdd, Nat.reduceSub, if_true, if_false, ite_true, ite_false, reduceIte, Bool.false_eq_true, Bool.not_true, Bool.not_false, List.all_cons, List.all_nil, Bool.and_true, true_and, and_true, List.map_cons, List.map_nil, gIdx, ixT_ints, intsOf_map, Int.reduceToNat, Option.some.injEq, exists_eq_left', goAdd_int, goAdd_str, goAdd_tup, goAdd_lst, goAddW_int, goAddW_lst, goPlus_int, goI_int, guI_int, gcI1_int, goIx_lst, gcLen_lst, gcTupleS_lst, gcList_lst, goRevA_lst, goIx_tup, gcLen_tup, gcTupleS_tup, gcList_tup, goRevA_tup, gcTuple_lst, goIx_str, gcLen_str, gcInt_int, gcInt_bl, goMulT_tup, goMulL_lst, goIsB_bl, goIsN_non, isN_int, isN_bl, isN_str, isN_tup, isN_lst, isN_dic, isN_ref, isN_ty, isN_non, gTru_k, truK_non, truK_bl, truK_int, truK_lst, truK_tup, truK_str, gFlist_k, lstK_lst, lstK_tup, gsSl_k, slK_lst, slK_tup, slK_str, itsD_k, itsK_lst, itsK_tup, giZip_k, zipK_lst, zipK_tup, giR1_k, ran1K_nat, ran1K_int, giR2_k, ran2K_int, goLtA_int, goLtA_tup, ok_non, eqv_bl, goEq_int, goNe_int, goEq_bl, goNe_bl, gcMin_ints, gcMinT_ints, gcMax_ints, gcMaxT_ints, intsOf_mapf, blsOf_mapf, gcMin_f, gcMax_f, gcMin_2, gcMax_2, gcSum_ints, gcSum_f, gcBls_f, all_mapid, any_mapid, at_0, at_1, at_2, at_3, at_last, noOwn_nil, noOwn_1, noOwn_2, nof_n, nof_v, nof_b, nof_s, zipD_map, enumD_map, isi_non_int, isi_non_bool, isi_non_str, isi_non_tuple, isi_non_list, isi_non_dict, isi_bl_int, isi_bl_bool, isi_bl_str, isi_bl_tuple, isi_bl_list, isi_bl_dict, isi_int_int, isi_int_bool, isi_int_str, isi_int_tuple, isi_int_list, isi_int_dict, isi_str_int, isi_str_bool, isi_str_str, isi_str_tuple, isi_str_list, isi_str_dict, isi_tup_int, isi_tup_bool, isi_tup_str, isi_tup_tuple, isi_tup_list, isi_tup_dict, isi_lst_int, isi_lst_bool, isi_lst_str, isi_lst_tuple, isi_lst_list, isi_lst_dict, isi_dic_int, isi_dic_bool, isi_dic_str, isi_dic_tuple, isi_dic_list, isi_dic_dict, gcAll, gcAny, goMod, goFdiv, decide_eq_true_eq, Bool.not_eq_true', decide_eq_false_iff_not, ite_not, Bool.and_eq_true, not_false_eq_true, Bool.not_eq_true, List.map_append, Int.zero_add, List.any_cons, List.any_nil, Bool.true_and, Bool.or_false, Bool.xor_false, Bool.false_xor, Bool.true_xor, Bool.not_not, forall_const, Int.toNat_natCast, List.length_map, List.length_append, and_self, ne_eq, List.map_eq_nil_iff, not_true_eq_false, eq_self, goMulI, goSub, goPow, goLe, goGt, goGe, guNeg, gcAbs, goEq_str, goNe_str, goEq_tup, goNe_tup, goEq_lst, goNe_lst, goEq_non, goNe_non, gAndV_k, gOrV_k, gCh_k, blK_bl, ite_bf, reduceCtorEq, Int.reducePow, Int.reduceLT, Int.reduceLE, Int.reduceNeg, sz0, se0, sz1, se1, sz2, se2, sz3, se3, sz4, se4, sz5, se5, sz6, se6, sz7, se7, sz8, se8, sz9, se9, gFld, fldK_ref, gPutF, gPutFM, putFK_ref, gDrf, drfK_ref, gMApp, mlK_ref, gMPop, popK_int, gMIns, ins2K_2, insK_int, gMeth, mthK_ref, gMake, giR3, gFlR1, gFlR2, rg2K_int, gLenSet, lenSetK_lst, lenSetK_tup, gMinD, minDK_lst, giMem, giBA, gMIdx, goTab, gFsort, sortK_lst, sortK_tup])
local macro_rules | `(tactic| wp_walk using $ts,*) => `(tactic| simp only [$[$ts:term],*, gSeq, gSet, gRet, gRetN, gNext, gIfS, gDrop, gOwn, gApp, gExt, gForM, gLcM, gCnt, gTryV, gTryE, gxP, gxM, DL.Fr.mute, gIPut, gFrz, frz, gAsg, gPar, gPar3, gAug, gRaise, gRetM, gSetM, gMPut, gMGet, g1, g2, gC, gV, gVw, gB, gAnd, gOr, gNot, gNotV, gIf, DL.gCons, DL.gNil, DL.gTup, DL.gLst, gFl, gFd, gCa, gLenS, gPart, gNoP, gDisp, gPcons, gPnil, gtN, gtTup, gtCons, gtNil, gYes, gFor, gLc, giS, gCallP, gCallM, gScr, entry, aSls, aSl, DL.Fr.set, OM.d, wipeF, wipeS, keyD, List.length_cons, List.length_nil, List.cons_append, List.nil_append, List.append_nil, List.replicate_succ, List.replicate_zero, List.getElem?_cons_zero, List.getElem?_cons_succ, List.getElem?_nil, List.set_cons_zero, List.set_cons_succ, Nat.reduceAdd, Nat.reduceSub, if_true, if_false, ite_true, ite_false, reduceIte, Bool.false_eq_true, Bool.not_true, Bool.not_false, List.all_cons, List.all_nil, Bool.and_true, true_and, and_true, List.map_cons, List.map_nil, gIdx, ixT_ints, intsOf_map, Int.reduceToNat, Option.some.injEq, exists_eq_left', goAdd_int, goAdd_str, goAdd_tup, goAdd_lst, goAddW_int, goAddW_lst, goPlus_int, goI_int, guI_int, gcI1_int, goIx_lst, gcLen_lst, gcTupleS_lst, gcList_lst, goRevA_lst, goIx_tup, gcLen_tup, gcTupleS_tup, gcList_tup, goRevA_tup, gcTuple_lst, goIx_str, gcLen_str, gcInt_int, gcInt_bl, goMulT_tup, goMulL_lst, goIsB_bl, goIsN_non, isN_int, isN_bl, isN_str, isN_tup, isN_lst, isN_dic, isN_ref, isN_ty, isN_non, gTru_k, truK_non, truK_bl, truK_int, truK_lst, truK_tup, truK_str, gFlist_k, lstK_lst, lstK_tup, gsSl_k, slK_lst, slK_tup, slK_str, itsD_k, itsK_lst, itsK_tup, giZip_k, zipK_lst, zipK_tup, giR1_k, ran1K_nat, ran1K_int, giR2_k, ran2K_int, goLtA_int, goLtA_tup, ok_non, eqv_bl, goEq_int, goNe_int, goEq_bl, goNe_bl, gcMin_ints, gcMinT_ints, gcMax_ints, gcMaxT_ints, intsOf_mapf, blsOf_mapf, gcMin_f, gcMax_f, gcMin_2, gcMax_2, gcSum_ints, gcSum_f, gcBls_f, all_mapid, any_mapid, at_0, at_1, at_2, at_3, at_last, noOwn_nil, noOwn_1, noOwn_2, nof_n, nof_v, nof_b, nof_s, zipD_map, enumD_map, isi_non_int, isi_non_bool, isi_non_str, isi_non_tuple, isi_non_list, isi_non_dict, isi_bl_int, isi_bl_bool, isi_bl_str, isi_bl_tuple, isi_bl_list, isi_bl_dict, isi_int_int, isi_int_bool, isi_int_str, isi_int_tuple, isi_int_list, isi_int_dict, isi_str_int, isi_str_bool, isi_str_str, isi_str_tuple, isi_str_list, isi_str_dict, isi_tup_int, isi_tup_bool, isi_tup_str, isi_tup_tuple, isi_tup_list, isi_tup_dict, isi_lst_int, isi_lst_bool, isi_lst_str, isi_lst_tuple, isi_lst_list, isi_lst_dict, isi_dic_int, isi_dic_bool, isi_dic_str, isi_dic_tuple, isi_dic_list, isi_dic_dict, gcAll, gcAny, goMod, goFdiv, decide_eq_true_eq, Bool.not_eq_true', decide_eq_false_iff_not, ite_not, Bool.and_eq_true, not_false_eq_true, Bool.not_eq_true, List.map_append, Int.zero_add, List.any_cons, List.any_nil, Bool.true_and, Bool.or_false, Bool.xor_false, Bool.false_xor, Bool.true_xor, Bool.not_not, forall_const, Int.toNat_natCast, List.length_map, List.length_append, and_self, ne_eq, List.map_eq_nil_iff, not_true_eq_false, eq_self, goMulI, goSub, goPow, goLe, goGt, goGe, guNeg, gcAbs, goEq_str, goNe_str, goEq_tup, goNe_tup, goEq_lst, goNe_lst, goEq_non, goNe_non, gAndV_k, gOrV_k, gCh_k, blK_bl, ite_bf, reduceCtorEq, Int.reducePow, Int.reduceLT, Int.reduceLE, Int.reduceNeg, sz0, se0, sz1, se1, sz2, se2, sz3, se3, sz4, se4, sz5, se5, sz6, se6, sz7, se7, sz8, se8, sz9, se9, gFld, fldK_ref, gPutF, gPutFM, putFK_ref, gDrf, drfK_ref, gMApp, mlK_ref, gMPop, popK_int, gMIns, ins2K_2, insK_int, gMeth, mthK_ref, gMake, giR3, gFlR1, gFlR2, rg2K_int, gLenSet, lenSetK_lst, lenSetK_tup, gMinD, minDK_lst, giMem, giBA, gMIdx, goTab, gFsort, sortK_lst, sortK_tup])
variable {K : PySem.W.Frag}
def isThing : D → Bool
  | .int x => decide (0 ≤ x) && decide (x ≤ 999999)
  | _ => false
def fs_p_is_thing (K : PySem.W.Frag) : FS := fun ds M Q _ => ∃ d, ds = [d] ∧ d.da = true ∧ Q (.bl (isThing d)) M
theorem mo_p_is_thing {K : PySem.W.Frag} : MonoF (fs_p_is_thing K) := fun _ _ _ _ _ _ h _ ⟨d, e, c, q⟩ => ⟨d, e, c, h _ _ q⟩
/-- is_thing -/
def g_p_is_thing (K : PySem.W.Frag) : GS := gRet (gAndV (gCa gcIsi (gCons (gV 0) (gCons (gC (.ty "int")) gNil))) (gAndV (gNotV (gCa gcIsi (gCons (gV 0) (gCons (gC (.ty "bool")) gNil)))) (gCh goLe goLe (gC (.int 0)) (gV 0) (gC (.int 999999)))))
theorem h_p_is_thing {K : PySem.W.Frag} : ∀ ds M Q X, (fs_p_is_thing K) ds M Q X → ds.length = ([.v] : List AK).length → g_p_is_thing K { nx := fun _ M' => Q .non M', rt := Q } (entry 1 [.v] ds X) M := by
  rintro ds M Q X ⟨d, rfl, ht, q⟩ -
  wp_walk using g_p_is_thing
  cases d
  case int x =>
    wp_walk
    by_cases h : 0 ≤ x
    · simpa [isThing, h] using q
    · simpa [isThing, h] using q
  all_goals first | (simp [D.da] at ht; done) | (wp_walk; exact q)
def isSort (d : D) : Bool := match d with
  | .str z => decide (z ∈ (["set", "row", "map"] : List PySem.Str))
  | _ => false
def fs_p_need_sort (K : PySem.W.Frag) : FS := fun ds M Q X => ∃ d, ds = [d] ∧ d.da = true ∧ (isSort d = true → Q .non M) ∧ (isSort d = false → X (He.ga K "NoSort") M)
theorem mo_p_need_sort {K : PySem.W.Frag} : MonoF (fs_p_need_sort K) := fun _ _ _ _ _ _ h hx ⟨d, e, c, q, q2⟩ => ⟨d, e, c, fun z => h _ _ (q z), fun z => hx _ _ (q2 z)⟩
/-- need_sort -/
def g_p_need_sort (K : PySem.W.Frag) : GS := gIfS (gOr (gNot (gTru (gCa gcIsi (gCons (gV 0) (gCons (gC (.ty "str")) gNil))))) (gB (g2 (goTab (He.ga K "WORDS") ["set", "row", "map"] true) (gV 0) (gC (.ref (He.ga K "WORDS")))))) (gRaise (He.ga K "NoSort")) (gNext)
theorem h_p_need_sort {K : PySem.W.Frag} : ∀ ds M Q X, (fs_p_need_sort K) ds M Q X → ds.length = ([.v] : List AK).length → g_p_need_sort K { nx := fun _ M' => Q .non M', rt := Q } (entry 1 [.v] ds X) M := by
  rintro ds M Q X ⟨d, rfl, ht, q, q2⟩ -
  wp_walk using g_p_need_sort
  cases d
  case str z =>
    wp_walk
    by_cases h : z ∈ (["set", "row", "map"] : List PySem.Str)
    · rw [if_pos h]
      exact q (decide_eq_true h)
    · rw [if_neg h]
      exact q2 (decide_eq_false h)
  all_goals first | (simp [D.da] at ht; done) | (wp_walk; exact q2 rfl)
/-- a pair of things -/
def isPair : D → Bool
  | .tup [a, b] => isThing a && isThing b
  | _ => false
def fs_p_is_pair (K : PySem.W.Frag) : FS := fun ds M Q _ => ∃ d, ds = [d] ∧ d.da = true ∧ Q (.bl (isPair d)) M
theorem mo_p_is_pair {K : PySem.W.Frag} : MonoF (fs_p_is_pair K) := fun _ _ _ _ _ _ h _ ⟨d, e, c, q⟩ => ⟨d, e, c, h _ _ q⟩
theorem thing_of {M : Mem} {d : D} {Q : D → Mem → Prop} {X : Addr → Mem → Prop} (h : d.da = true) (q : Q (.bl (isThing d)) M) : fs_p_is_thing K [d] M Q X := ⟨d, rfl, h, q⟩
/-- is_pair -/
def g_p_is_pair (K : PySem.W.Frag) : GS := gRet (gAndV (gCa gcIsi (gCons (gV 0) (gCons (gC (.ty "tuple")) gNil))) (gAndV (g2 goEqA (gCa gcLen (gCons (gV 0) gNil)) (gC (.int 2))) (gAndV (gCallP (fs_p_is_thing K) (gCons (g2 goIx (gV 0) (gC (.int 0))) gNil)) (gCallP (fs_p_is_thing K) (gCons (g2 goIx (gV 0) (gC (.int 1))) gNil)))))
theorem h_p_is_pair {K : PySem.W.Frag} : ∀ ds M Q X, (fs_p_is_pair K) ds M Q X → ds.length = ([.v] : List AK).length → g_p_is_pair K { nx := fun _ M' => Q .non M', rt := Q } (entry 1 [.v] ds X) M := by
  rintro ds M Q X ⟨d, rfl, ht, q⟩ -
  wp_walk using g_p_is_pair
  cases d
  case tup xs =>
    rcases xs with _ | ⟨a, _ | ⟨b, _ | ⟨c, xs⟩⟩⟩
    · wp_walk
      exact q
    · wp_walk
      exact q
    · have h := D.da_tup ▸ ht
      have ha : a.da = true := D.daL_mem h a (by simp)
      have hb : b.da = true := D.daL_mem h b (by simp)
      have e0 : atI [a, b] 0 = some a := by rfl
      have e1 : atI [a, b] 1 = some b := by rfl
      wp_walk using e0, e1
      rw [if_pos (by rfl)]
      refine thing_of (K := K) ha ?_
      cases z : isThing a with
      | false =>
        wp_walk
        simpa [isPair, z] using q
      | true =>
        wp_walk using e1
        refine thing_of (K := K) hb ?_
        wp_walk
        simpa [isPair, z] using q
    · wp_walk
      rw [if_neg (by omega)]
      exact q
  all_goals first | (simp [D.da] at ht; done) | (wp_walk; exact q)
def fs_p_are_unlike (K : PySem.W.Frag) : FS := fun ds M Q _ => ∃ (d : D) (ns : List Int), ds = [d] ∧ seqOf d = some (ns.map .int) ∧ ns.length ≤ 4000 ∧ Q (.bl (decide ns.Nodup)) M
theorem mo_p_are_unlike {K : PySem.W.Frag} : MonoF (fs_p_are_unlike K) := fun _ _ _ _ _ _ h _ ⟨d, ns, e, c, c2, q⟩ => ⟨d, ns, e, c, c2, h _ _ q⟩
/-- are_unlike -/
def g_p_are_unlike (K : PySem.W.Frag) : GS := gRet (g2 goEqA (gLenSet (gV 0)) (gCa gcLen (gCons (gV 0) gNil)))
theorem h_p_are_unlike {K : PySem.W.Frag} : ∀ ds M Q X, (fs_p_are_unlike K) ds M Q X → ds.length = ([.v] : List AK).length → g_p_are_unlike K { nx := fun _ M' => Q .non M', rt := Q } (entry 1 [.v] ds X) M := by
  rintro ds M Q X ⟨d, ns, rfl, hs, hl, q⟩ -
  cases d <;> simp only [seqOf, reduceCtorEq, Option.some.injEq] at hs <;> subst hs
  all_goals
    wp_walk using g_p_are_unlike, lenSetK_tup, lenSetK_lst
    refine ⟨hl, fun L hL => ?_⟩
    have e : decide ((L.length : Int) = (ns.length : Nat)) = decide ns.Nodup := by
      rw [Bool.eq_iff_iff, decide_eq_true_eq, decide_eq_true_eq, ← hL.iff]
      omega
    rw [← e] at q
    exact q
/-- a key and a value -/
def pI (p : Int × Int) : D := .tup [.int p.1, .int p.2]
def pairsOf : List D → Option (List (Int × Int))
  | [] => some []
  | .tup [.int a, .int b] :: r => (pairsOf r).map ((a, b) :: ·)
  | _ => none
theorem pairsOf_map : ∀ ps : List (Int × Int), pairsOf (ps.map pI) = some ps
  | [] => rfl
  | p :: ps => by
    show (pairsOf (ps.map pI)).map _ = _
    rw [pairsOf_map ps]
    rfl
theorem isPair_inv {d : D} (h : isPair d = true) : ∃ p : Int × Int, d = pI p ∧ (0 ≤ p.1 ∧ p.1 ≤ 999999) ∧ 0 ≤ p.2 ∧ p.2 ≤ 999999 := by
  unfold isPair at h
  split at h
  · rename_i a b
    rw [Bool.and_eq_true] at h
    have th : ∀ {d : D}, isThing d = true → ∃ x, d = .int x ∧ 0 ≤ x ∧ x ≤ 999999 := fun {d} h => by
      cases d <;> first | (cases h; done) | skip
      rename_i x
      have h2 : (decide (0 ≤ x) && decide (x ≤ 999999)) = true := h
      rw [Bool.and_eq_true, decide_eq_true_eq, decide_eq_true_eq] at h2
      exact ⟨x, rfl, h2⟩
    obtain ⟨x, rfl, hx⟩ := th h.1
    obtain ⟨y, rfl, hy⟩ := th h.2
    exact ⟨(x, y), rfl, hx, hy⟩
  · cases h
theorem pairs_of : ∀ {xs : List D}, xs.all isPair = true → ∃ ps : List (Int × Int), xs = ps.map pI ∧ ∀ p ∈ ps, (0 ≤ p.1 ∧ p.1 ≤ 999999) ∧ 0 ≤ p.2 ∧ p.2 ≤ 999999
  | [], _ => ⟨[], rfl, by simp⟩
  | x :: xs, h => by
    rw [List.all_cons, Bool.and_eq_true] at h
    obtain ⟨p, rfl, hp⟩ := isPair_inv h.1
    obtain ⟨ps, rfl, hps⟩ := pairs_of h.2
    refine ⟨p :: ps, rfl, fun q hq => ?_⟩
    rcases List.mem_cons.mp hq with rfl | hq
    · exact hp
    · exact hps q hq
/-- what lies on a set -/
def isSetB : D → Bool
  | .tup xs => decide (xs.length ≤ 40) && (xs.all isThing && match intsOf xs with
    | some ns => decide ns.Nodup
    | none => false)
  | _ => false
def isRowB : D → Bool
  | .tup xs => decide (xs.length ≤ 40) && xs.all isThing
  | _ => false
def isMapB : D → Bool
  | .tup xs => decide (xs.length ≤ 40) && (xs.all isPair && match pairsOf xs with
    | some ps => decide (ps.map (·.1)).Nodup
    | none => false)
  | _ => false
/-- the sorts of shelves -/
inductive So where
  | set | row | map
def So.s : So → PySem.Str
  | .set => "set"
  | .row => "row"
  | .map => "map"
/-- what lies on a shelf of a sort -/
def lieB : So → D → Bool
  | .set => isSetB
  | .row => isRowB
  | .map => isMapB
theorem isSort_iff {d : D} (h : isSort d = true) : ∃ so : So, d = .str so.s := by
  cases d <;> first | (cases h; done) | skip
  rename_i z
  have h2 := of_decide_eq_true h
  simp only [List.mem_cons, List.not_mem_nil, or_false] at h2
  rcases h2 with rfl | rfl | rfl
  · exact ⟨.set, rfl⟩
  · exact ⟨.row, rfl⟩
  · exact ⟨.map, rfl⟩
theorem things_ints {xs : List D} (h : xs.all isThing = true) : ∃ ns : List Int, xs = ns.map .int ∧ ∀ n ∈ ns, 0 ≤ n ∧ n ≤ 999999 := by
  obtain ⟨ns, e, _, h2⟩ := ints_of (P := fun n => 0 ≤ n ∧ n ≤ 999999) (xs := xs) fun d hd => by
    have := List.all_eq_true.mp h d hd
    cases d <;> first | (cases this; done) | skip
    rename_i x
    have h2 : (decide (0 ≤ x) && decide (x ≤ 999999)) = true := this
    rw [Bool.and_eq_true, decide_eq_true_eq, decide_eq_true_eq] at h2
    exact ⟨x, rfl, h2⟩
  exact ⟨ns, e, h2⟩
def fs_p_is_things (K : PySem.W.Frag) : FS := fun ds M Q X => ∃ s d, ds = [s, d] ∧ s.da = true ∧ d.da = true ∧ (isSort s = false → X (He.ga K "NoSort") M) ∧ ∀ so : So, s = .str so.s → Q (.bl (lieB so d)) M
theorem mo_p_is_things {K : PySem.W.Frag} : MonoF (fs_p_is_things K) := fun _ _ _ _ _ _ h hx ⟨s, d, e, c, c2, q1, q2⟩ => ⟨s, d, e, c, c2, fun z => hx _ _ (q1 z), fun so z => h _ _ (q2 so z)⟩
/-- is_things -/
def af1_p_is_things (K : PySem.W.Frag) : GS := gRet (gOrV (g2 goEqA (gV 0) (gC (.str "row"))) (gCallP (fs_p_are_unlike K) (gCons (gV 1) gNil)))
def af2_p_is_things (K : PySem.W.Frag) : GS := gSeq (gIfS (gNot (gTru (gCa gcAll (gCons (gFd (gLc (itsD (fun ds => ds) (gV 1)) (gtN 2) (gYes) (gCallP (fs_p_is_thing K) (gCons (gV 2) gNil)) [2])) gNil)))) (gRet (gC (.bl false))) (gNext)) (af1_p_is_things K)
def af3_p_is_things (K : PySem.W.Frag) : GS := gSeq (gIfS (gB (g2 goEqA (gV 0) (gC (.str "map")))) (gRet (gAndV (gCa gcAll (gCons (gFd (gLc (itsD (fun ds => ds) (gV 1)) (gtN 2) (gYes) (gCallP (fs_p_is_pair K) (gCons (gV 2) gNil)) [2])) gNil)) (gCallP (fs_p_are_unlike K) (gCons (gFd (gLc (itsD (fun ds => ds) (gV 1)) (gtN 2) (gYes) (g2 goIx (gV 2) (gC (.int 0))) [2])) gNil)))) (gNext)) (af2_p_is_things K)
def g_p_is_things (K : PySem.W.Frag) : GS := gSeq (gDrop (gCallP (fs_p_need_sort K) (gCons (gV 0) gNil))) (gSeq (gIfS (gOr (gNot (gTru (gCa gcIsi (gCons (gV 1) (gCons (gC (.ty "tuple")) gNil))))) (gB (g2 goGt (gCa gcLen (gCons (gV 1) gNil)) (gC (.int 40))))) (gRet (gC (.bl false))) (gNext)) (af3_p_is_things K))
theorem h_p_is_things {K : PySem.W.Frag} : ∀ ds M Q X, (fs_p_is_things K) ds M Q X → ds.length = ([.v, .v] : List AK).length → g_p_is_things K { nx := fun _ M' => Q .non M', rt := Q } (entry 3 [.v, .v] ds X) M := by
  rintro ds M Q X ⟨s, d, rfl, hs, hd, q1, q2⟩ -
  wp_walk using g_p_is_things
  refine ⟨s, rfl, hs, fun hso => ?_, q1⟩
  obtain ⟨so, rfl⟩ := isSort_iff hso
  have q := q2 so rfl
  have fin : (∀ xs, d ≠ .tup xs) → Q (.bl false) M := fun h => by
    have e2 : lieB so d = false := by cases so <;> cases d <;> first | rfl | exact absurd rfl (h _)
    rwa [e2] at q
  wp_walk
  cases d
  case tup xs =>
    wp_walk
    by_cases hl : (40 : Int) < (xs.length : Nat)
    · rw [if_pos hl]
      have hl' : decide (xs.length ≤ 40) = false := decide_eq_false (by omega)
      have e2 : lieB so (.tup xs) = false := by
        cases so
        · simp [lieB, isSetB, hl']
        · simp [lieB, isRowB, hl']
        · simp [lieB, isMapB, hl']
      rwa [e2] at q
    · rw [if_neg hl]
      have hl' : decide (xs.length ≤ 40) = true := decide_eq_true (by omega)
      have hl2 : xs.length ≤ 40 := by omega
      have hda : ∀ d ∈ xs, d.da = true := D.daL_mem (D.da_tup ▸ hd)
      have eb : ∀ f : D → Bool, blsOf ([] ++ xs.map fun d => D.bl (f d)) = some (xs.map f) := fun f => by
        rw [List.nil_append, show (xs.map fun d => D.bl (f d)) = (xs.map f).map D.bl by rw [List.map_map]; rfl]
        exact blsOf_map _
      have ea : ∀ f : D → Bool, (xs.map f).all _root_.id = xs.all f := fun f => by rw [List.all_map]; rfl
      cases so
      case set =>
        wp_walk using af3_p_is_things, af2_p_is_things, So.s
        rw [if_neg (by decide)]
        refine lc_map (fun d => .bl (isThing d)) (fun d hd Q' q' => ?_) (size_of (by rw [List.length_nil]; omega)) ?_
        · wp_walk
          exact thing_of (K := K) (hda d hd) q'
        · refine ⟨_, eb isThing, ?_⟩
          dsimp only
          rw [ea]
          cases ht : xs.all isThing with
          | false =>
            wp_walk
            simpa [lieB, isSetB, hl', ht] using q
          | true =>
            obtain ⟨ns, rfl, hn⟩ := things_ints ht
            wp_walk using af1_p_is_things
            rw [if_neg (by decide)]
            wp_walk
            refine ⟨.tup (ns.map .int), ns, rfl, rfl, by rw [List.length_map] at hl2; omega, ?_⟩
            have hl2 : ns.length ≤ 40 := by simpa using hl'
            simpa [lieB, isSetB, hl2, ht, intsOf_map] using q
      case row =>
        wp_walk using af3_p_is_things, af2_p_is_things, So.s
        rw [if_neg (by decide)]
        refine lc_map (fun d => .bl (isThing d)) (fun d hd Q' q' => ?_) (size_of (by rw [List.length_nil]; omega)) ?_
        · wp_walk
          exact thing_of (K := K) (hda d hd) q'
        · refine ⟨_, eb isThing, ?_⟩
          dsimp only
          rw [ea]
          cases ht : xs.all isThing with
          | false =>
            wp_walk
            simpa [lieB, isRowB, hl', ht] using q
          | true =>
            wp_walk using af1_p_is_things
            simpa [lieB, isRowB, hl', ht] using q
      case map =>
        wp_walk using af3_p_is_things, af2_p_is_things, So.s
        refine lc_map (fun d => .bl (isPair d)) (fun d hd Q' q' => ?_) (size_of (by rw [List.length_nil]; omega)) ?_
        · wp_walk
          exact ⟨d, rfl, hda d hd, q'⟩
        · refine ⟨_, eb isPair, ?_⟩
          dsimp only
          rw [ea]
          cases ht : xs.all isPair with
          | false =>
            wp_walk
            simpa [lieB, isMapB, hl', ht] using q
          | true =>
            obtain ⟨ps, rfl, hn⟩ := pairs_of ht
            have hl3 : ps.length ≤ 40 := by simpa using hl'
            wp_walk
            refine lc_mp (xs := ps) (enc := pI) (f := fun p => .int p.1) (fun p hp Q' q' => ?_) (size_of (by rw [List.length_nil]; omega)) ?_
            · wp_walk using pI
              exact q'
            · rw [List.nil_append, show (ps.map fun p => D.int p.1) = (ps.map (·.1)).map D.int by rw [List.map_map]; rfl]
              refine ⟨.lst ((ps.map (·.1)).map .int), ps.map (·.1), rfl, rfl, by rw [List.length_map]; omega, ?_⟩
              simpa [lieB, isMapB, hl3, ht, pairsOf_map] using q
  all_goals first | (simp [D.da] at hd; done) | (wp_walk; exact fin fun xs z => by cases z)
end LW
namespace LW
open PySem PySem.Spec PySem.W PyProof.Rows L2 DL
local macro_rules | `(tactic| wp_walk) => `(tactic| simp only [gSeq, gSet, gRet, gRetN, gNext, gIfS, gDrop, gOwn, gApp, gExt, gForM, gLcM, gCnt, gTryV, gTryE, gxP, gxM, DL.Fr.mute, gIPut, gFrz, frz, gAsg, gPar, gPar3, gAug, gRaise, gRetM, gSetM, gMPut, gMGet, g1, g2, gC, gV, gVw, gB, gAnd, gOr, gNot, gNotV, gIf, DL.gCons, DL.gNil, DL.gTup, DL.gLst, gFl, gFd, gCa, gLenS, gPart, gNoP, gDisp, gPcons, gPnil, gtN, gtTup, gtCons, gtNil, gYes, gFor, gLc, giS, gCallP, gCallM, gScr, entry, aSls, aSl, DL.Fr.set, OM.d, wipeF, wipeS, keyD, List.length_cons, List.length_nil, List.cons_append, List.nil_append, List.append_nil, List.replicate_succ, List.replicate_zero, List.getElem?_cons_zero, List.getElem?_cons_succ, List.getElem?_nil, List.set_cons_zero, List.set_cons_succ, Nat.reduceAdd, Nat.reduceSub, if_true, if_false, ite_true, ite_false, reduceIte, Bool.false_eq_true, Bool.not_true, Bool.not_false, List.all_cons, List.all_nil, Bool.and_true, true_and, and_true, List.map_cons, List.map_nil, gIdx, ixT_ints, intsOf_map, Int.reduceToNat, Option.some.injEq, exists_eq_left', goAdd_int, goAdd_str, goAdd_tup, goAdd_lst, goAddW_int, goAddW_lst, goPlus_int, goI_int, guI_int, gcI1_int, goIx_lst, gcLen_lst, gcTupleS_lst, gcList_lst, goRevA_lst, goIx_tup, gcLen_tup, gcTupleS_tup, gcList_tup, goRevA_tup, gcTuple_lst, goIx_str, gcLen_str, gcInt_int, gcInt_bl, goMulT_tup, goMulL_lst, goIsB_bl, goIsN_non, isN_int, isN_bl, isN_str, isN_tup, isN_lst, isN_dic, isN_ref, isN_ty, isN_non, gTru_k, truK_non, truK_bl, truK_int, truK_lst, truK_tup, truK_str, gFlist_k, lstK_lst, lstK_tup, gsSl_k, slK_lst, slK_tup, slK_str, itsD_k, itsK_lst, itsK_tup, giZip_k, zipK_lst, zipK_tup, giR1_k, ran1K_nat, ran1K_int, giR2_k, ran2K_int, goLtA_int, goLtA_tup, ok_non, eqv_bl, goEq_int, goNe_int, goEq_bl, goNe_bl, gcMin_ints, gcMinT_ints, gcMax_ints, gcMaxT_ints, intsOf_mapf, blsOf_mapf, gcMin_f, gcMax_f, gcMin_2, gcMax_2, gcSum_ints, gcSum_f, gcBls_f, all_mapid, any_mapid, at_0, at_1, at_2, at_3, at_last, noOwn_nil, noOwn_1, noOwn_2, nof_n, nof_v, nof_b, nof_s, zipD_map, enumD_map, isi_non_int, isi_non_bool, isi_non_str, isi_non_tuple, isi_non_list, isi_non_dict, isi_bl_int, isi_bl_bool, isi_bl_str, isi_bl_tuple, isi_bl_list, isi_bl_dict, isi_int_int, isi_int_bool, isi_int_str, isi_int_tuple, isi_int_list, isi_int_dict, isi_str_int, isi_str_bool, isi_str_str, isi_str_tuple, isi_str_list, isi_str_dict, isi_tup_int, isi_tup_bool, isi_tup_str, isi_tup_tuple, isi_tup_list, isi_tup_dict, isi_lst_int, isi_lst_bool, isi_lst_str, isi_lst_tuple, isi_lst_list, isi_lst_dict, isi_dic_int, isi_dic_bool, isi_dic_str, isi_dic_tuple, isi_dic_list, isi_dic_dict, gcAll, gcAny, goMod, goFdiv, decide_eq_true_eq, Bool.not_eq_true', decide_eq_false_iff_not, ite_not, Bool.and_eq_true, not_false_eq_true, Bool.not_eq_true, List.map_append, Int.zero_add, List.any_cons, List.any_nil, Bool.true_and, Bool.or_false, Bool.xor_false, Bool.false_xor, Bool.true_xor, Bool.not_not, forall_const, Int.toNat_natCast, List.length_map, List.length_append, and_self, ne_eq, List.map_eq_nil_iff, not_true_eq_false, eq_self, goMulI, goSub, goPow, goLe, goGt, goGe, guNeg, gcAbs, goEq_str, goNe_str, goEq_tup, goNe_tup, goEq_lst, goNe_lst, goEq_non, goNe_non, gAndV_k, gOrV_k, gCh_k, blK_bl, ite_bf, reduceCtorEq, Int.reducePow, Int.reduceLT, Int.reduceLE, Int.reduceNeg, sz0, se0, sz1, se1, sz2, se2, sz3, se3, sz4, se4, sz5, se5, sz6, se6, sz7, se7, sz8, se8, sz9, se9, gFld, fldK_ref, gPutF, gPutFM, putFK_ref, gDrf, drfK_ref, gMApp, mlK_ref, gMPop, popK_int, gMIns, ins2K_2, insK_int, gMeth, mthK_ref, gMake, giR3, gFlR1, gFlR2, rg2K_int, gLenSet, lenSetK_lst, lenSetK_tup, gMinD, minDK_lst, giMem, giBA, gMIdx, goTab, gFsort, sortK_lst, sortK_tup])
local macro_rules | `(tactic| wp_walk using $ts,*) => `(tactic| simp only [$[$ts:term],*, gSeq, gSet, gRet, gRetN, gNext, gIfS, gDrop, gOwn, gApp, gExt, gForM, gLcM, gCnt, gTryV, gTryE, gxP, gxM, DL.Fr.mute, gIPut, gFrz, frz, gAsg, gPar, gPar3, gAug, gRaise, gRetM, gSetM, gMPut, gMGet, g1, g2, gC, gV, gVw, gB, gAnd, gOr, gNot, gNotV, gIf, DL.gCons, DL.gNil, DL.gTup, DL.gLst, gFl, gFd, gCa, gLenS, gPart, gNoP, gDisp, gPcons, gPnil, gtN, gtTup, gtCons, gtNil, gYes, gFor, gLc, giS, gCallP, gCallM, gScr, entry, aSls, aSl, DL.Fr.set, OM.d, wipeF, wipeS, keyD, List.length_cons, List.length_nil, List.cons_append, List.nil_append, List.append_nil, List.replicate_succ, List.replicate_zero, List.getElem?_cons_zero, List.getElem?_cons_succ, List.getElem?_nil, List.set_cons_zero, List.set_cons_succ, Nat.reduceAdd, Nat.reduceSub, if_true, if_false, ite_true, ite_false, reduceIte, Bool.false_eq_true, Bool.not_true, Bool.not_false, List.all_cons, List.all_nil, Bool.and_true, true_and, and_true, List.map_cons, List.map_nil, gIdx, ixT_ints, intsOf_map, Int.reduceToNat, Option.some.injEq, exists_eq_left', goAdd_int, goAdd_str, goAdd_tup, goAdd_lst, goAddW_int, goAddW_lst, goPlus_int, goI_int, guI_int, gcI1_int, goIx_lst, gcLen_lst, gcTupleS_lst, gcList_lst, goRevA_lst, goIx_tup, gcLen_tup, gcTupleS_tup, gcList_tup, goRevA_tup, gcTuple_lst, goIx_str, gcLen_str, gcInt_int, gcInt_bl, goMulT_tup, goMulL_lst, goIsB_bl, goIsN_non, isN_int, isN_bl, isN_str, isN_tup, isN_lst, isN_dic, isN_ref, isN_ty, isN_non, gTru_k, truK_non, truK_bl, truK_int, truK_lst, truK_tup, truK_str, gFlist_k, lstK_lst, lstK_tup, gsSl_k, slK_lst, slK_tup, slK_str, itsD_k, itsK_lst, itsK_tup, giZip_k, zipK_lst, zipK_tup, giR1_k, ran1K_nat, ran1K_int, giR2_k, ran2K_int, goLtA_int, goLtA_tup, ok_non, eqv_bl, goEq_int, goNe_int, goEq_bl, goNe_bl, gcMin_ints, gcMinT_ints, gcMax_ints, gcMaxT_ints, intsOf_mapf, blsOf_mapf, gcMin_f, gcMax_f, gcMin_2, gcMax_2, gcSum_ints, gcSum_f, gcBls_f, all_mapid, any_mapid, at_0, at_1, at_2, at_3, at_last, noOwn_nil, noOwn_1, noOwn_2, nof_n, nof_v, nof_b, nof_s, zipD_map, enumD_map, isi_non_int, isi_non_bool, isi_non_str, isi_non_tuple, isi_non_list, isi_non_dict, isi_bl_int, isi_bl_bool, isi_bl_str, isi_bl_tuple, isi_bl_list, isi_bl_dict, isi_int_int, isi_int_bool, isi_int_str, isi_int_tuple, isi_int_list, isi_int_dict, isi_str_int, isi_str_bool, isi_str_str, isi_str_tuple, isi_str_list, isi_str_dict, isi_tup_int, isi_tup_bool, isi_tup_str, isi_tup_tuple, isi_tup_list, isi_tup_dict, isi_lst_int, isi_lst_bool, isi_lst_str, isi_lst_tuple, isi_lst_list, isi_lst_dict, isi_dic_int, isi_dic_bool, isi_dic_str, isi_dic_tuple, isi_dic_list, isi_dic_dict, gcAll, gcAny, goMod, goFdiv, decide_eq_true_eq, Bool.not_eq_true', decide_eq_false_iff_not, ite_not, Bool.and_eq_true, not_false_eq_true, Bool.not_eq_true, List.map_append, Int.zero_add, List.any_cons, List.any_nil, Bool.true_and, Bool.or_false, Bool.xor_false, Bool.false_xor, Bool.true_xor, Bool.not_not, forall_const, Int.toNat_natCast, List.length_map, List.length_append, and_self, ne_eq, List.map_eq_nil_iff, not_true_eq_false, eq_self, goMulI, goSub, goPow, goLe, goGt, goGe, guNeg, gcAbs, goEq_str, goNe_str, goEq_tup, goNe_tup, goEq_lst, goNe_lst, goEq_non, goNe_non, gAndV_k, gOrV_k, gCh_k, blK_bl, ite_bf, reduceCtorEq, Int.reducePow, Int.reduceLT, Int.reduceLE, Int.reduceNeg, sz0, se0, sz1, se1, sz2, se2, sz3, se3, sz4, se4, sz5, se5, sz6, se6, sz7, se7, sz8, se8, sz9, se9, gFld, fldK_ref, gPutF, gPutFM, putFK_ref, gDrf, drfK_ref, gMApp, mlK_ref, gMPop, popK_int, gMIns, ins2K_2, insK_int, gMeth, mthK_ref, gMake, giR3, gFlR1, gFlR2, rg2K_int, gLenSet, lenSetK_lst, lenSetK_tup, gMinD, minDK_lst, giMem, giBA, gMIdx, goTab, gFsort, sortK_lst, sortK_tup])
variable {K : PySem.W.Frag}
/-- things that lie on a set -/
structure SetN (ns : List Int) : Prop where
  len : ns.length ≤ 40
  rng : ∀ n ∈ ns, 0 ≤ n ∧ n ≤ 999999
  nd : ns.Nodup
theorem isSetB_iff {d : D} : isSetB d = true ↔ ∃ ns : List Int, d = .tup (ns.map .int) ∧ SetN ns := by
  constructor
  · intro h
    cases d <;> first | (cases h; done) | skip
    rename_i xs
    have h' : (decide (xs.length ≤ 40) && (xs.all isThing && match intsOf xs with
      | some ns => decide ns.Nodup
      | none => false)) = true := h
    rw [Bool.and_eq_true, Bool.and_eq_true, decide_eq_true_eq] at h'
    obtain ⟨ns, rfl, hn⟩ := things_ints h'.2.1
    have h3 := h'.2.2
    rw [intsOf_map] at h3
    exact ⟨ns, rfl, by simpa using h'.1, hn, of_decide_eq_true h3⟩
  · rintro ⟨ns, rfl, h1, h2, h3⟩
    show (decide ((ns.map D.int).length ≤ 40) && ((ns.map D.int).all isThing && match intsOf (ns.map D.int) with
      | some ns => decide ns.Nodup
      | none => false)) = true
    have e : (ns.map D.int).all isThing = true := List.all_eq_true.mpr fun d hd => by
      obtain ⟨n, hn, rfl⟩ := List.mem_map.mp hd
      have := h2 n hn
      show (decide (0 ≤ n) && decide (n ≤ 999999)) = true
      rw [decide_eq_true this.1, decide_eq_true this.2]; rfl
    rw [intsOf_map, e, List.length_map, decide_eq_true h1]
    simpa using h3
theorem isThing_int {d : D} (h : isThing d = true) : ∃ x, d = .int x ∧ 0 ≤ x ∧ x ≤ 999999 := by
  cases d <;> first | (cases h; done) | skip
  rename_i x
  have h2 : (decide (0 ≤ x) && decide (x ≤ 999999)) = true := h
  rw [Bool.and_eq_true, decide_eq_true_eq, decide_eq_true_eq] at h2
  exact ⟨x, rfl, h2⟩
def fs_l_thing (K : PySem.W.Frag) : FS := DrawF (fun r => ∃ k : Int, r = [.int k] ∧ 0 ≤ k) fun r d => ∃ n : Int, d = .int n ∧ 0 ≤ n ∧ n ≤ 999999
theorem mo_l_thing {K : PySem.W.Frag} : MonoF (fs_l_thing K) := drawF_mono
theorem at_6_60 {k : Int} (h0 : 0 ≤ k) (h : k < 2) : ∃ b, atI [D.int 6, .int 60] k = some (.int b) ∧ 1 ≤ b ∧ b ≤ 60 := by
  have : k = 0 ∨ k = 1 := by omega
  rcases this with rfl | rfl
  · exact ⟨6, by rfl, by omega, by omega⟩
  · exact ⟨60, by rfl, by omega, by omega⟩
/-- _law_thing -/
def af1_l_thing (K : PySem.W.Frag) : GS := gRet (gCallM (fs_l_pick K) (gCons (gV 0) (gCons (gLst (gCons (gC (.int 0)) (gCons (gC (.int 999999)) (gCons (gC (.int 1)) (gCons (gC (.int 999998)) (gCons (gC (.int 8)) (gCons (gC (.int 7)) gNil))))))) gNil)))
def af2_l_thing (K : PySem.W.Frag) : GS := gSeq (gIfS (gB (g2 goEqA (gV 1) (gC (.int 3)))) (gRet (gCallM (fs_l_take K) (gCons (gV 0) (gCons (gC (.int 1000000)) gNil)))) (gNext)) (af1_l_thing K)
def af3_l_thing (K : PySem.W.Frag) : GS := gSeq (gIfS (gB (g2 goEqA (gV 1) (gC (.int 2)))) (gRet (g2 goAdd (g2 goMulI (gC (.int 8)) (gCallM (fs_l_take K) (gCons (gV 0) (gCons (gC (.int 9)) gNil)))) (gC (.int 3)))) (gNext)) (af2_l_thing K)
def g_l_thing (K : PySem.W.Frag) : GS := gSeq (gIfS (gB (g2 goLtA (gV 1) (gC (.int 2)))) (gRet (gCallM (fs_l_take K) (gCons (gV 0) (gCons (g2 goIx (gLst (gCons (gC (.int 6)) (gCons (gC (.int 60)) gNil))) (gV 1)) gNil)))) (gNext)) (af3_l_thing K)
theorem h_l_thing {K : PySem.W.Frag} : ∀ ds M Q X, (fs_l_thing K) ds M Q X → ds.length = ([.v, .v] : List AK).length → g_l_thing K { nx := fun _ M' => Q .non M', rt := Q } (entry 2 [.v, .v] ds X) M := by
  rintro ds M Q X ⟨a, r, rfl, ms, ⟨k, rfl, k0⟩, q⟩ -
  have fin : ∀ n : Int, 0 ≤ n → n ≤ 999999 → Q (.int n) M := fun n h1 h2 => q _ ⟨n, rfl, h1, h2⟩
  wp_walk using g_l_thing
  by_cases h1 : k < 2
  · rw [if_pos h1]
    obtain ⟨b, eb, b0, b1⟩ := at_6_60 k0 h1
    wp_walk using eb
    exact take_of ms b0 (by omega) fun n n0 n1 => fin n n0 (by omega)
  · rw [if_neg h1]
    wp_walk using af3_l_thing
    split
    · wp_walk
      refine take_of (K := K) ms (by omega) (by omega) fun n n0 n1 => ?_
      wp_walk
      exact ⟨.inl ⟨by omega, by omega⟩, fin _ (by omega) (by omega)⟩
    · wp_walk using af2_l_thing
      split
      · wp_walk
        exact take_of (K := K) ms (by omega) (by omega) fun n n0 n1 => fin n n0 (by omega)
      · wp_walk using af1_l_thing
        refine pick_of (K := K) ms rfl (by simp) (by simp) fun d hd => ?_
        simp only [List.mem_cons, List.not_mem_nil, or_false] at hd
        rcases hd with rfl | rfl | rfl | rfl | rfl | rfl <;> exact fin _ (by omega) (by omega)
theorem thing_dr {M : Mem} {a : Addr} {k : Int} {Q : D → Mem → Prop} {X : Addr → Mem → Prop} (ms : M a = some .st) (h0 : 0 ≤ k) (h : ∀ n : Int, 0 ≤ n → n ≤ 999999 → Q (.int n) M) : fs_l_thing K [.ref a, .int k] M Q X :=
  ⟨a, _, rfl, ms, ⟨k, rfl, h0⟩, fun d ⟨n, e, h1, h2⟩ => by subst e; exact h n h1 h2⟩
end LW
namespace LW
open PySem PySem.Spec PySem.W PyProof.Rows L2 DL
local macro_rules | `(tactic| wp_walk) => `(tactic| simp only [gSeq, gSet, gRet, gRetN, gNext, gIfS, gDrop, gOwn, gApp, gExt, gForM, gLcM, gCnt, gTryV, gTryE, gxP, gxM, DL.Fr.mute, gIPut, gFrz, frz, gAsg, gPar, gPar3, gAug, gRaise, gRetM, gSetM, gMPut, gMGet, g1, g2, gC, gV, gVw, gB, gAnd, gOr, gNot, gNotV, gIf, DL.gCons, DL.gNil, DL.gTup, DL.gLst, gFl, gFd, gCa, gLenS, gPart, gNoP, gDisp, gPcons, gPnil, gtN, gtTup, gtCons, gtNil, gYes, gFor, gLc, giS, gCallP, gCallM, gScr, entry, aSls, aSl, DL.Fr.set, OM.d, wipeF, wipeS, keyD, List.length_cons, List.length_nil, List.cons_append, List.nil_append, List.append_nil, List.replicate_succ, List.replicate_zero, List.getElem?_cons_zero, List.getElem?_cons_succ, List.getElem?_nil, List.set_cons_zero, List.set_cons_succ, Nat.reduceAdd, Nat.reduceSub, if_true, if_false, ite_true, ite_false, reduceIte, Bool.false_eq_true, Bool.not_true, Bool.not_false, List.all_cons, List.all_nil, Bool.and_true, true_and, and_true, List.map_cons, List.map_nil, gIdx, ixT_ints, intsOf_map, Int.reduceToNat, Option.some.injEq, exists_eq_left', goAdd_int, goAdd_str, goAdd_tup, goAdd_lst, goAddW_int, goAddW_lst, goPlus_int, goI_int, guI_int, gcI1_int, goIx_lst, gcLen_lst, gcTupleS_lst, gcList_lst, goRevA_lst, goIx_tup, gcLen_tup, gcTupleS_tup, gcList_tup, goRevA_tup, gcTuple_lst, goIx_str, gcLen_str, gcInt_int, gcInt_bl, goMulT_tup, goMulL_lst, goIsB_bl, goIsN_non, isN_int, isN_bl, isN_str, isN_tup, isN_lst, isN_dic, isN_ref, isN_ty, isN_non, gTru_k, truK_non, truK_bl, truK_int, truK_lst, truK_tup, truK_str, gFlist_k, lstK_lst, lstK_tup, gsSl_k, slK_lst, slK_tup, slK_str, itsD_k, itsK_lst, itsK_tup, giZip_k, zipK_lst, zipK_tup, giR1_k, ran1K_nat, ran1K_int, giR2_k, ran2K_int, goLtA_int, goLtA_tup, ok_non, eqv_bl, goEq_int, goNe_int, goEq_bl, goNe_bl, gcMin_ints, gcMinT_ints, gcMax_ints, gcMaxT_ints, intsOf_mapf, blsOf_mapf, gcMin_f, gcMax_f, gcMin_2, gcMax_2, gcSum_ints, gcSum_f, gcBls_f, all_mapid, any_mapid, at_0, at_1, at_2, at_3, at_last, noOwn_nil, noOwn_1, noOwn_2, nof_n, nof_v, nof_b, nof_s, zipD_map, enumD_map, isi_non_int, isi_non_bool, isi_non_str, isi_non_tuple, isi_non_list, isi_non_dict, isi_bl_int, isi_bl_bool, isi_bl_str, isi_bl_tuple, isi_bl_list, isi_bl_dict, isi_int_int, isi_int_bool, isi_int_str, isi_int_tuple, isi_int_list, isi_int_dict, isi_str_int, isi_str_bool, isi_str_str, isi_str_tuple, isi_str_list, isi_str_dict, isi_tup_int, isi_tup_bool, isi_tup_str, isi_tup_tuple, isi_tup_list, isi_tup_dict, isi_lst_int, isi_lst_bool, isi_lst_str, isi_lst_tuple, isi_lst_list, isi_lst_dict, isi_dic_int, isi_dic_bool, isi_dic_str, isi_dic_tuple, isi_dic_list, isi_dic_dict, gcAll, gcAny, goMod, goFdiv, decide_eq_true_eq, Bool.not_eq_true', decide_eq_false_iff_not, ite_not, Bool.and_eq_true, not_false_eq_true, Bool.not_eq_true, List.map_append, Int.zero_add, List.any_cons, List.any_nil, Bool.true_and, Bool.or_false, Bool.xor_false, Bool.false_xor, Bool.true_xor, Bool.not_not, forall_const, Int.toNat_natCast, List.length_map, List.length_append, and_self, ne_eq, List.map_eq_nil_iff, not_true_eq_false, eq_self, goMulI, goSub, goPow, goLe, goGt, goGe, guNeg, gcAbs, goEq_str, goNe_str, goEq_tup, goNe_tup, goEq_lst, goNe_lst, goEq_non, goNe_non, gAndV_k, gOrV_k, gCh_k, blK_bl, ite_bf, reduceCtorEq, Int.reducePow, Int.reduceLT, Int.reduceLE, Int.reduceNeg, sz0, se0, sz1, se1, sz2, se2, sz3, se3, sz4, se4, sz5, se5, sz6, se6, sz7, se7, sz8, se8, sz9, se9, gFld, fldK_ref, gPutF, gPutFM, putFK_ref, gDrf, drfK_ref, gMApp, mlK_ref, gMPop, popK_int, gMIns, ins2K_2, insK_int, gMeth, mthK_ref, gMake, giR3, gFlR1, gFlR2, rg2K_int, gLenSet, lenSetK_lst, lenSetK_tup, gMinD, minDK_lst, giMem, giBA, gMIdx, goTab, gFsort, sortK_lst, sortK_tup])
local macro_rules | `(tactic| wp_walk using $ts,*) => `(tactic| simp only [$[$ts:term],*, gSeq, gSet, gRet, gRetN, gNext, gIfS, gDrop, gOwn, gApp, gExt, gForM, gLcM, gCnt, gTryV, gTryE, gxP, gxM, DL.Fr.mute, gIPut, gFrz, frz, gAsg, gPar, gPar3, gAug, gRaise, gRetM, gSetM, gMPut, gMGet, g1, g2, gC, gV, gVw, gB, gAnd, gOr, gNot, gNotV, gIf, DL.gCons, DL.gNil, DL.gTup, DL.gLst, gFl, gFd, gCa, gLenS, gPart, gNoP, gDisp, gPcons, gPnil, gtN, gtTup, gtCons, gtNil, gYes, gFor, gLc, giS, gCallP, gCallM, gScr, entry, aSls, aSl, DL.Fr.set, OM.d, wipeF, wipeS, keyD, List.length_cons, List.length_nil, List.cons_append, List.nil_append, List.append_nil, List.replicate_succ, List.replicate_zero, List.getElem?_cons_zero, List.getElem?_cons_succ, List.getElem?_nil, List.set_cons_zero, List.set_cons_succ, Nat.reduceAdd, Nat.reduceSub, if_true, if_false, ite_true, ite_false, reduceIte, Bool.false_eq_true, Bool.not_true, Bool.not_false, List.all_cons, List.all_nil, Bool.and_true, true_and, and_true, List.map_cons, List.map_nil, gIdx, ixT_ints, intsOf_map, Int.reduceToNat, Option.some.injEq, exists_eq_left', goAdd_int, goAdd_str, goAdd_tup, goAdd_lst, goAddW_int, goAddW_lst, goPlus_int, goI_int, guI_int, gcI1_int, goIx_lst, gcLen_lst, gcTupleS_lst, gcList_lst, goRevA_lst, goIx_tup, gcLen_tup, gcTupleS_tup, gcList_tup, goRevA_tup, gcTuple_lst, goIx_str, gcLen_str, gcInt_int, gcInt_bl, goMulT_tup, goMulL_lst, goIsB_bl, goIsN_non, isN_int, isN_bl, isN_str, isN_tup, isN_lst, isN_dic, isN_ref, isN_ty, isN_non, gTru_k, truK_non, truK_bl, truK_int, truK_lst, truK_tup, truK_str, gFlist_k, lstK_lst, lstK_tup, gsSl_k, slK_lst, slK_tup, slK_str, itsD_k, itsK_lst, itsK_tup, giZip_k, zipK_lst, zipK_tup, giR1_k, ran1K_nat, ran1K_int, giR2_k, ran2K_int, goLtA_int, goLtA_tup, ok_non, eqv_bl, goEq_int, goNe_int, goEq_bl, goNe_bl, gcMin_ints, gcMinT_ints, gcMax_ints, gcMaxT_ints, intsOf_mapf, blsOf_mapf, gcMin_f, gcMax_f, gcMin_2, gcMax_2, gcSum_ints, gcSum_f, gcBls_f, all_mapid, any_mapid, at_0, at_1, at_2, at_3, at_last, noOwn_nil, noOwn_1, noOwn_2, nof_n, nof_v, nof_b, nof_s, zipD_map, enumD_map, isi_non_int, isi_non_bool, isi_non_str, isi_non_tuple, isi_non_list, isi_non_dict, isi_bl_int, isi_bl_bool, isi_bl_str, isi_bl_tuple, isi_bl_list, isi_bl_dict, isi_int_int, isi_int_bool, isi_int_str, isi_int_tuple, isi_int_list, isi_int_dict, isi_str_int, isi_str_bool, isi_str_str, isi_str_tuple, isi_str_list, isi_str_dict, isi_tup_int, isi_tup_bool, isi_tup_str, isi_tup_tuple, isi_tup_list, isi_tup_dict, isi_lst_int, isi_lst_bool, isi_lst_str, isi_lst_tuple, isi_lst_list, isi_lst_dict, isi_dic_int, isi_dic_bool, isi_dic_str, isi_dic_tuple, isi_dic_list, isi_dic_dict, gcAll, gcAny, goMod, goFdiv, decide_eq_true_eq, Bool.not_eq_true', decide_eq_false_iff_not, ite_not, Bool.and_eq_true, not_false_eq_true, Bool.not_eq_true, List.map_append, Int.zero_add, List.any_cons, List.any_nil, Bool.true_and, Bool.or_false, Bool.xor_false, Bool.false_xor, Bool.true_xor, Bool.not_not, forall_const, Int.toNat_natCast, List.length_map, List.length_append, and_self, ne_eq, List.map_eq_nil_iff, not_true_eq_false, eq_self, goMulI, goSub, goPow, goLe, goGt, goGe, guNeg, gcAbs, goEq_str, goNe_str, goEq_tup, goNe_tup, goEq_lst, goNe_lst, goEq_non, goNe_non, gAndV_k, gOrV_k, gCh_k, blK_bl, ite_bf, reduceCtorEq, Int.reducePow, Int.reduceLT, Int.reduceLE, Int.reduceNeg, sz0, se0, sz1, se1, sz2, se2, sz3, se3, sz4, se4, sz5, se5, sz6, se6, sz7, se7, sz8, se8, sz9, se9, gFld, fldK_ref, gPutF, gPutFM, putFK_ref, gDrf, drfK_ref, gMApp, mlK_ref, gMPop, popK_int, gMIns, ins2K_2, insK_int, gMeth, mthK_ref, gMake, giR3, gFlR1, gFlR2, rg2K_int, gLenSet, lenSetK_lst, lenSetK_tup, gMinD, minDK_lst, giMem, giBA, gMIdx, goTab, gFsort, sortK_lst, sortK_tup])
variable {K : PySem.W.Frag}
def below (ns : List Int) (x : Int) : List Int := ns.filter fun n => decide (n < x)
inductive W5 where
  | put | take | has | next | rank
def W5.s : W5 → PySem.Str
  | .put => "put"
  | .take => "take"
  | .has => "has"
  | .next => "next"
  | .rank => "rank"
theorem ints_inj {a b : List Int} (h : D.tup (a.map .int) = .tup (b.map .int)) : a = b := (List.map_inj_right (fun a b h => D.int.inj h)).mp (D.tup.inj h)
end LW
namespace LW
open PySem PySem.Spec PySem.W PyProof.Rows L2 DL
local macro_rules | `(tactic| wp_walk) => `(tactic| simp only [gSeq, gSet, gRet, gRetN, gNext, gIfS, gDrop, gOwn, gApp, gExt, gForM, gLcM, gCnt, gTryV, gTryE, gxP, gxM, DL.Fr.mute, gIPut, gFrz, frz, gAsg, gPar, gPar3, gAug, gRaise, gRetM, gSetM, gMPut, gMGet, g1, g2, gC, gV, gVw, gB, gAnd, gOr, gNot, gNotV, gIf, DL.gCons, DL.gNil, DL.gTup, DL.gLst, gFl, gFd, gCa, gLenS, gPart, gNoP, gDisp, gPcons, gPnil, gtN, gtTup, gtCons, gtNil, gYes, gFor, gLc, giS, gCallP, gCallM, gScr, entry, aSls, aSl, DL.Fr.set, OM.d, wipeF, wipeS, keyD, List.length_cons, List.length_nil, List.cons_append, List.nil_append, List.append_nil, List.replicate_succ, List.replicate_zero, List.getElem?_cons_zero, List.getElem?_cons_succ, List.getElem?_nil, List.set_cons_zero, List.set_cons_succ, Nat.reduceAdd, Nat.reduceSub, if_true, if_false, ite_true, ite_false, reduceIte, Bool.false_eq_true, Bool.not_true, Bool.not_false, List.all_cons, List.all_nil, Bool.and_true, true_and, and_true, List.map_cons, List.map_nil, gIdx, ixT_ints, intsOf_map, Int.reduceToNat, Option.some.injEq, exists_eq_left', goAdd_int, goAdd_str, goAdd_tup, goAdd_lst, goAddW_int, goAddW_lst, goPlus_int, goI_int, guI_int, gcI1_int, goIx_lst, gcLen_lst, gcTupleS_lst, gcList_lst, goRevA_lst, goIx_tup, gcLen_tup, gcTupleS_tup, gcList_tup, goRevA_tup, gcTuple_lst, goIx_str, gcLen_str, gcInt_int, gcInt_bl, goMulT_tup, goMulL_lst, goIsB_bl, goIsN_non, isN_int, isN_bl, isN_str, isN_tup, isN_lst, isN_dic, isN_ref, isN_ty, isN_non, gTru_k, truK_non, truK_bl, truK_int, truK_lst, truK_tup, truK_str, gFlist_k, lstK_lst, lstK_tup, gsSl_k, slK_lst, slK_tup, slK_str, itsD_k, itsK_lst, itsK_tup, giZip_k, zipK_lst, zipK_tup, giR1_k, ran1K_nat, ran1K_int, giR2_k, ran2K_int, goLtA_int, goLtA_tup, ok_non, eqv_bl, goEq_int, goNe_int, goEq_bl, goNe_bl, gcMin_ints, gcMinT_ints, gcMax_ints, gcMaxT_ints, intsOf_mapf, blsOf_mapf, gcMin_f, gcMax_f, gcMin_2, gcMax_2, gcSum_ints, gcSum_f, gcBls_f, all_mapid, any_mapid, at_0, at_1, at_2, at_3, at_last, noOwn_nil, noOwn_1, noOwn_2, nof_n, nof_v, nof_b, nof_s, zipD_map, enumD_map, isi_non_int, isi_non_bool, isi_non_str, isi_non_tuple, isi_non_list, isi_non_dict, isi_bl_int, isi_bl_bool, isi_bl_str, isi_bl_tuple, isi_bl_list, isi_bl_dict, isi_int_int, isi_int_bool, isi_int_str, isi_int_tuple, isi_int_list, isi_int_dict, isi_str_int, isi_str_bool, isi_str_str, isi_str_tuple, isi_str_list, isi_str_dict, isi_tup_int, isi_tup_bool, isi_tup_str, isi_tup_tuple, isi_tup_list, isi_tup_dict, isi_lst_int, isi_lst_bool, isi_lst_str, isi_lst_tuple, isi_lst_list, isi_lst_dict, isi_dic_int, isi_dic_bool, isi_dic_str, isi_dic_tuple, isi_dic_list, isi_dic_dict, gcAll, gcAny, goMod, goFdiv, decide_eq_true_eq, Bool.not_eq_true', decide_eq_false_iff_not, ite_not, Bool.and_eq_true, not_false_eq_true, Bool.not_eq_true, List.map_append, Int.zero_add, List.any_cons, List.any_nil, Bool.true_and, Bool.or_false, Bool.xor_false, Bool.false_xor, Bool.true_xor, Bool.not_not, forall_const, Int.toNat_natCast, List.length_map, List.length_append, and_self, ne_eq, List.map_eq_nil_iff, not_true_eq_false, eq_self, goMulI, goSub, goPow, goLe, goGt, goGe, guNeg, gcAbs, goEq_str, goNe_str, goEq_tup, goNe_tup, goEq_lst, goNe_lst, goEq_non, goNe_non, gAndV_k, gOrV_k, gCh_k, blK_bl, ite_bf, reduceCtorEq, Int.reducePow, Int.reduceLT, Int.reduceLE, Int.reduceNeg, sz0, se0, sz1, se1, sz2, se2, sz3, se3, sz4, se4, sz5, se5, sz6, se6, sz7, se7, sz8, se8, sz9, se9, gFld, fldK_ref, gPutF, gPutFM, putFK_ref, gDrf, drfK_ref, gMApp, mlK_ref, gMPop, popK_int, gMIns, ins2K_2, insK_int, gMeth, mthK_ref, gMake, giR3, gFlR1, gFlR2, rg2K_int, gLenSet, lenSetK_lst, lenSetK_tup, gMinD, minDK_lst, giMem, giBA, gMIdx, goTab, gFsort, sortK_lst, sortK_tup])
local macro_rules | `(tactic| wp_walk using $ts,*) => `(tactic| simp only [$[$ts:term],*, gSeq, gSet, gRet, gRetN, gNext, gIfS, gDrop, gOwn, gApp, gExt, gForM, gLcM, gCnt, gTryV, gTryE, gxP, gxM, DL.Fr.mute, gIPut, gFrz, frz, gAsg, gPar, gPar3, gAug, gRaise, gRetM, gSetM, gMPut, gMGet, g1, g2, gC, gV, gVw, gB, gAnd, gOr, gNot, gNotV, gIf, DL.gCons, DL.gNil, DL.gTup, DL.gLst, gFl, gFd, gCa, gLenS, gPart, gNoP, gDisp, gPcons, gPnil, gtN, gtTup, gtCons, gtNil, gYes, gFor, gLc, giS, gCallP, gCallM, gScr, entry, aSls, aSl, DL.Fr.set, OM.d, wipeF, wipeS, keyD, List.length_cons, List.length_nil, List.cons_append, List.nil_append, List.append_nil, List.replicate_succ, List.replicate_zero, List.getElem?_cons_zero, List.getElem?_cons_succ, List.getElem?_nil, List.set_cons_zero, List.set_cons_succ, Nat.reduceAdd, Nat.reduceSub, if_true, if_false, ite_true, ite_false, reduceIte, Bool.false_eq_true, Bool.not_true, Bool.not_false, List.all_cons, List.all_nil, Bool.and_true, true_and, and_true, List.map_cons, List.map_nil, gIdx, ixT_ints, intsOf_map, Int.reduceToNat, Option.some.injEq, exists_eq_left', goAdd_int, goAdd_str, goAdd_tup, goAdd_lst, goAddW_int, goAddW_lst, goPlus_int, goI_int, guI_int, gcI1_int, goIx_lst, gcLen_lst, gcTupleS_lst, gcList_lst, goRevA_lst, goIx_tup, gcLen_tup, gcTupleS_tup, gcList_tup, goRevA_tup, gcTuple_lst, goIx_str, gcLen_str, gcInt_int, gcInt_bl, goMulT_tup, goMulL_lst, goIsB_bl, goIsN_non, isN_int, isN_bl, isN_str, isN_tup, isN_lst, isN_dic, isN_ref, isN_ty, isN_non, gTru_k, truK_non, truK_bl, truK_int, truK_lst, truK_tup, truK_str, gFlist_k, lstK_lst, lstK_tup, gsSl_k, slK_lst, slK_tup, slK_str, itsD_k, itsK_lst, itsK_tup, giZip_k, zipK_lst, zipK_tup, giR1_k, ran1K_nat, ran1K_int, giR2_k, ran2K_int, goLtA_int, goLtA_tup, ok_non, eqv_bl, goEq_int, goNe_int, goEq_bl, goNe_bl, gcMin_ints, gcMinT_ints, gcMax_ints, gcMaxT_ints, intsOf_mapf, blsOf_mapf, gcMin_f, gcMax_f, gcMin_2, gcMax_2, gcSum_ints, gcSum_f, gcBls_f, all_mapid, any_mapid, at_0, at_1, at_2, at_3, at_last, noOwn_nil, noOwn_1, noOwn_2, nof_n, nof_v, nof_b, nof_s, zipD_map, enumD_map, isi_non_int, isi_non_bool, isi_non_str, isi_non_tuple, isi_non_list, isi_non_dict, isi_bl_int, isi_bl_bool, isi_bl_str, isi_bl_tuple, isi_bl_list, isi_bl_dict, isi_int_int, isi_int_bool, isi_int_str, isi_int_tuple, isi_int_list, isi_int_dict, isi_str_int, isi_str_bool, isi_str_str, isi_str_tuple, isi_str_list, isi_str_dict, isi_tup_int, isi_tup_bool, isi_tup_str, isi_tup_tuple, isi_tup_list, isi_tup_dict, isi_lst_int, isi_lst_bool, isi_lst_str, isi_lst_tuple, isi_lst_list, isi_lst_dict, isi_dic_int, isi_dic_bool, isi_dic_str, isi_dic_tuple, isi_dic_list, isi_dic_dict, gcAll, gcAny, goMod, goFdiv, decide_eq_true_eq, Bool.not_eq_true', decide_eq_false_iff_not, ite_not, Bool.and_eq_true, not_false_eq_true, Bool.not_eq_true, List.map_append, Int.zero_add, List.any_cons, List.any_nil, Bool.true_and, Bool.or_false, Bool.xor_false, Bool.false_xor, Bool.true_xor, Bool.not_not, forall_const, Int.toNat_natCast, List.length_map, List.length_append, and_self, ne_eq, List.map_eq_nil_iff, not_true_eq_false, eq_self, goMulI, goSub, goPow, goLe, goGt, goGe, guNeg, gcAbs, goEq_str, goNe_str, goEq_tup, goNe_tup, goEq_lst, goNe_lst, goEq_non, goNe_non, gAndV_k, gOrV_k, gCh_k, blK_bl, ite_bf, reduceCtorEq, Int.reducePow, Int.reduceLT, Int.reduceLE, Int.reduceNeg, sz0, se0, sz1, se1, sz2, se2, sz3, se3, sz4, se4, sz5, se5, sz6, se6, sz7, se7, sz8, se8, sz9, se9, gFld, fldK_ref, gPutF, gPutFM, putFK_ref, gDrf, drfK_ref, gMApp, mlK_ref, gMPop, popK_int, gMIns, ins2K_2, insK_int, gMeth, mthK_ref, gMake, giR3, gFlR1, gFlR2, rg2K_int, gLenSet, lenSetK_lst, lenSetK_tup, gMinD, minDK_lst, giMem, giBA, gMIdx, goTab, gFsort, sortK_lst, sortK_tup])
variable {K : PySem.W.Frag}
/-- deeds of a row -/
inductive RD where
  | at_ (i : Int) | into (i x : Int) | out (i : Int) | find (x : Int)
def RD.w : RD → PySem.Str
  | .at_ _ => "at"
  | .into _ _ => "into"
  | .out _ => "out"
  | .find _ => "find"
def RD.ns : RD → List Int
  | .at_ i => [i]
  | .into i x => [i, x]
  | .out i => [i]
  | .find x => [x]
def RD.d (r : RD) : D := .tup (.str r.w :: r.ns.map .int)
def thingN (x : Int) : Prop := 0 ≤ x ∧ x ≤ 999999
def RD.ok (r : RD) : Prop := ∀ x ∈ r.ns, thingN x
/-- deeds of a map -/
inductive MD where
  | set (k v : Int) | get (k : Int) | drop (k : Int) | next (k : Int)
def MD.w : MD → PySem.Str
  | .set _ _ => "set"
  | .get _ => "get"
  | .drop _ => "drop"
  | .next _ => "next"
def MD.k : MD → Int
  | .set k _ => k
  | .get k => k
  | .drop k => k
  | .next k => k
def MD.ns : MD → List Int
  | .set k v => [k, v]
  | .get k => [k]
  | .drop k => [k]
  | .next k => [k]
def MD.d (r : MD) : D := .tup (.str r.w :: r.ns.map .int)
def MD.ok (r : MD) : Prop := ∀ x ∈ r.ns, thingN x
/-- whether a deed brings one more onto a full row -/
def RD.more : RD → List Int → Prop
  | .into _ _, ns => ns.length = 40
  | _, _ => False
def MD.more : MD → List (Int × Int) → Prop
  | .set k _, ps => k ∉ ps.map (·.1) ∧ ps.length = 40
  | _, _ => False
/-- things of a map, each key once -/
structure MapN (ps : List (Int × Int)) : Prop where
  len : ps.length ≤ 40
  rng : ∀ p ∈ ps, thingN p.1 ∧ thingN p.2
  nd : (ps.map (·.1)).Nodup
theorem isMapB_iff {d : D} : isMapB d = true ↔ ∃ ps : List (Int × Int), d = .tup (ps.map pI) ∧ MapN ps := by
  constructor
  · intro h
    cases d <;> first | (cases h; done) | skip
    rename_i xs
    have h' : (decide (xs.length ≤ 40) && (xs.all isPair && match pairsOf xs with
      | some ps => decide (ps.map (·.1)).Nodup
      | none => false)) = true := h
    rw [Bool.and_eq_true, Bool.and_eq_true, decide_eq_true_eq] at h'
    obtain ⟨ps, rfl, hn⟩ := pairs_of h'.2.1
    have h3 := h'.2.2
    rw [pairsOf_map] at h3
    exact ⟨ps, rfl, by simpa using h'.1, hn, of_decide_eq_true h3⟩
  · rintro ⟨ps, rfl, h1, h2, h3⟩
    show (decide ((ps.map pI).length ≤ 40) && ((ps.map pI).all isPair && match pairsOf (ps.map pI) with
      | some ps => decide (ps.map (·.1)).Nodup
      | none => false)) = true
    have e : (ps.map pI).all isPair = true := List.all_eq_true.mpr fun d hd => by
      obtain ⟨p, hp, rfl⟩ := List.mem_map.mp hd
      obtain ⟨⟨a, b⟩, c, d⟩ := h2 p hp
      show ((decide (0 ≤ p.1) && decide (p.1 ≤ 999999)) && (decide (0 ≤ p.2) && decide (p.2 ≤ 999999))) = true
      rw [decide_eq_true a, decide_eq_true b, decide_eq_true c, decide_eq_true d]; rfl
    rw [pairsOf_map, e, List.length_map, decide_eq_true h1]
    simpa using h3
structure RowN (ns : List Int) : Prop where
  len : ns.length ≤ 40
  rng : ∀ n ∈ ns, thingN n
theorem isRowB_iff {d : D} : isRowB d = true ↔ ∃ ns : List Int, d = .tup (ns.map .int) ∧ RowN ns := by
  constructor
  · intro h
    cases d <;> first | (cases h; done) | skip
    rename_i xs
    have h' : (decide (xs.length ≤ 40) && xs.all isThing) = true := h
    rw [Bool.and_eq_true, decide_eq_true_eq] at h'
    obtain ⟨ns, rfl, hn⟩ := things_ints h'.2
    exact ⟨ns, rfl, by simpa using h'.1, hn⟩
  · rintro ⟨ns, rfl, h1, h2⟩
    have e : (ns.map D.int).all isThing = true := List.all_eq_true.mpr fun d hd => by
      obtain ⟨n, hn, rfl⟩ := List.mem_map.mp hd
      have := h2 n hn
      show (decide (0 ≤ n) && decide (n ≤ 999999)) = true
      rw [decide_eq_true this.1, decide_eq_true this.2]; rfl
    show (decide ((ns.map D.int).length ≤ 40) && (ns.map D.int).all isThing) = true
    rw [e, List.length_map, decide_eq_true h1]
    rfl
theorem So.inj {a b : So} (h : D.str a.s = .str b.s) : a = b := by cases a <;> cases b <;> first | rfl | exact absurd (D.str.inj h) (by decide)
end LW
namespace LW
open PySem PySem.Spec PySem.W PyProof.Rows L2 DL
local macro_rules | `(tactic| wp_walk) => `(tactic| simp only [gSeq, gSet, gRet, gRetN, gNext, gIfS, gDrop, gOwn, gApp, gExt, gForM, gLcM, gCnt, gTryV, gTryE, gxP, gxM, DL.Fr.mute, gIPut, gFrz, frz, gAsg, gPar, gPar3, gAug, gRaise, gRetM, gSetM, gMPut, gMGet, g1, g2, gC, gV, gVw, gB, gAnd, gOr, gNot, gNotV, gIf, DL.gCons, DL.gNil, DL.gTup, DL.gLst, gFl, gFd, gCa, gLenS, gPart, gNoP, gDisp, gPcons, gPnil, gtN, gtTup, gtCons, gtNil, gYes, gFor, gLc, giS, gCallP, gCallM, gScr, entry, aSls, aSl, DL.Fr.set, OM.d, wipeF, wipeS, keyD, List.length_cons, List.length_nil, List.cons_append, List.nil_append, List.append_nil, List.replicate_succ, List.replicate_zero, List.getElem?_cons_zero, List.getElem?_cons_succ, List.getElem?_nil, List.set_cons_zero, List.set_cons_succ, Nat.reduceAdd, Nat.reduceSub, if_true, if_false, ite_true, ite_false, reduceIte, Bool.false_eq_true, Bool.not_true, Bool.not_false, List.all_cons, List.all_nil, Bool.and_true, true_and, and_true, List.map_cons, List.map_nil, gIdx, ixT_ints, intsOf_map, Int.reduceToNat, Option.some.injEq, exists_eq_left', goAdd_int, goAdd_str, goAdd_tup, goAdd_lst, goAddW_int, goAddW_lst, goPlus_int, goI_int, guI_int, gcI1_int, goIx_lst, gcLen_lst, gcTupleS_lst, gcList_lst, goRevA_lst, goIx_tup, gcLen_tup, gcTupleS_tup, gcList_tup, goRevA_tup, gcTuple_lst, goIx_str, gcLen_str, gcInt_int, gcInt_bl, goMulT_tup, goMulL_lst, goIsB_bl, goIsN_non, isN_int, isN_bl, isN_str, isN_tup, isN_lst, isN_dic, isN_ref, isN_ty, isN_non, gTru_k, truK_non, truK_bl, truK_int, truK_lst, truK_tup, truK_str, gFlist_k, lstK_lst, lstK_tup, gsSl_k, slK_lst, slK_tup, slK_str, itsD_k, itsK_lst, itsK_tup, giZip_k, zipK_lst, zipK_tup, giR1_k, ran1K_nat, ran1K_int, giR2_k, ran2K_int, goLtA_int, goLtA_tup, ok_non, eqv_bl, goEq_int, goNe_int, goEq_bl, goNe_bl, gcMin_ints, gcMinT_ints, gcMax_ints, gcMaxT_ints, intsOf_mapf, blsOf_mapf, gcMin_f, gcMax_f, gcMin_2, gcMax_2, gcSum_ints, gcSum_f, gcBls_f, all_mapid, any_mapid, at_0, at_1, at_2, at_3, at_last, noOwn_nil, noOwn_1, noOwn_2, nof_n, nof_v, nof_b, nof_s, zipD_map, enumD_map, isi_non_int, isi_non_bool, isi_non_str, isi_non_tuple, isi_non_list, isi_non_dict, isi_bl_int, isi_bl_bool, isi_bl_str, isi_bl_tuple, isi_bl_list, isi_bl_dict, isi_int_int, isi_int_bool, isi_int_str, isi_int_tuple, isi_int_list, isi_int_dict, isi_str_int, isi_str_bool, isi_str_str, isi_str_tuple, isi_str_list, isi_str_dict, isi_tup_int, isi_tup_bool, isi_tup_str, isi_tup_tuple, isi_tup_list, isi_tup_dict, isi_lst_int, isi_lst_bool, isi_lst_str, isi_lst_tuple, isi_lst_list, isi_lst_dict, isi_dic_int, isi_dic_bool, isi_dic_str, isi_dic_tuple, isi_dic_list, isi_dic_dict, gcAll, gcAny, goMod, goFdiv, decide_eq_true_eq, Bool.not_eq_true', decide_eq_false_iff_not, ite_not, Bool.and_eq_true, not_false_eq_true, Bool.not_eq_true, List.map_append, Int.zero_add, List.any_cons, List.any_nil, Bool.true_and, Bool.or_false, Bool.xor_false, Bool.false_xor, Bool.true_xor, Bool.not_not, forall_const, Int.toNat_natCast, List.length_map, List.length_append, and_self, ne_eq, List.map_eq_nil_iff, not_true_eq_false, eq_self, goMulI, goSub, goPow, goLe, goGt, goGe, guNeg, gcAbs, goEq_str, goNe_str, goEq_tup, goNe_tup, goEq_lst, goNe_lst, goEq_non, goNe_non, gAndV_k, gOrV_k, gCh_k, blK_bl, ite_bf, reduceCtorEq, Int.reducePow, Int.reduceLT, Int.reduceLE, Int.reduceNeg, sz0, se0, sz1, se1, sz2, se2, sz3, se3, sz4, se4, sz5, se5, sz6, se6, sz7, se7, sz8, se8, sz9, se9, gFld, fldK_ref, gPutF, gPutFM, putFK_ref, gDrf, drfK_ref, gMApp, mlK_ref, gMPop, popK_int, gMIns, ins2K_2, insK_int, gMeth, mthK_ref, gMake, giR3, gFlR1, gFlR2, rg2K_int, gLenSet, lenSetK_lst, lenSetK_tup, gMinD, minDK_lst, giMem, giBA, gMIdx, goTab, gFsort, sortK_lst, sortK_tup])
local macro_rules | `(tactic| wp_walk using $ts,*) => `(tactic| simp only [$[$ts:term],*, gSeq, gSet, gRet, gRetN, gNext, gIfS, gDrop, gOwn, gApp, gExt, gForM, gLcM, gCnt, gTryV, gTryE, gxP, gxM, DL.Fr.mute, gIPut, gFrz, frz, gAsg, gPar, gPar3, gAug, gRaise, gRetM, gSetM, gMPut, gMGet, g1, g2, gC, gV, gVw, gB, gAnd, gOr, gNot, gNotV, gIf, DL.gCons, DL.gNil, DL.gTup, DL.gLst, gFl, gFd, gCa, gLenS, gPart, gNoP, gDisp, gPcons, gPnil, gtN, gtTup, gtCons, gtNil, gYes, gFor, gLc, giS, gCallP, gCallM, gScr, entry, aSls, aSl, DL.Fr.set, OM.d, wipeF, wipeS, keyD, List.length_cons, List.length_nil, List.cons_append, List.nil_append, List.append_nil, List.replicate_succ, List.replicate_zero, List.getElem?_cons_zero, List.getElem?_cons_succ, List.getElem?_nil, List.set_cons_zero, List.set_cons_succ, Nat.reduceAdd, Nat.reduceSub, if_true, if_false, ite_true, ite_false, reduceIte, Bool.false_eq_true, Bool.not_true, Bool.not_false, List.all_cons, List.all_nil, Bool.and_true, true_and, and_true, List.map_cons, List.map_nil, gIdx, ixT_ints, intsOf_map, Int.reduceToNat, Option.some.injEq, exists_eq_left', goAdd_int, goAdd_str, goAdd_tup, goAdd_lst, goAddW_int, goAddW_lst, goPlus_int, goI_int, guI_int, gcI1_int, goIx_lst, gcLen_lst, gcTupleS_lst, gcList_lst, goRevA_lst, goIx_tup, gcLen_tup, gcTupleS_tup, gcList_tup, goRevA_tup, gcTuple_lst, goIx_str, gcLen_str, gcInt_int, gcInt_bl, goMulT_tup, goMulL_lst, goIsB_bl, goIsN_non, isN_int, isN_bl, isN_str, isN_tup, isN_lst, isN_dic, isN_ref, isN_ty, isN_non, gTru_k, truK_non, truK_bl, truK_int, truK_lst, truK_tup, truK_str, gFlist_k, lstK_lst, lstK_tup, gsSl_k, slK_lst, slK_tup, slK_str, itsD_k, itsK_lst, itsK_tup, giZip_k, zipK_lst, zipK_tup, giR1_k, ran1K_nat, ran1K_int, giR2_k, ran2K_int, goLtA_int, goLtA_tup, ok_non, eqv_bl, goEq_int, goNe_int, goEq_bl, goNe_bl, gcMin_ints, gcMinT_ints, gcMax_ints, gcMaxT_ints, intsOf_mapf, blsOf_mapf, gcMin_f, gcMax_f, gcMin_2, gcMax_2, gcSum_ints, gcSum_f, gcBls_f, all_mapid, any_mapid, at_0, at_1, at_2, at_3, at_last, noOwn_nil, noOwn_1, noOwn_2, nof_n, nof_v, nof_b, nof_s, zipD_map, enumD_map, isi_non_int, isi_non_bool, isi_non_str, isi_non_tuple, isi_non_list, isi_non_dict, isi_bl_int, isi_bl_bool, isi_bl_str, isi_bl_tuple, isi_bl_list, isi_bl_dict, isi_int_int, isi_int_bool, isi_int_str, isi_int_tuple, isi_int_list, isi_int_dict, isi_str_int, isi_str_bool, isi_str_str, isi_str_tuple, isi_str_list, isi_str_dict, isi_tup_int, isi_tup_bool, isi_tup_str, isi_tup_tuple, isi_tup_list, isi_tup_dict, isi_lst_int, isi_lst_bool, isi_lst_str, isi_lst_tuple, isi_lst_list, isi_lst_dict, isi_dic_int, isi_dic_bool, isi_dic_str, isi_dic_tuple, isi_dic_list, isi_dic_dict, gcAll, gcAny, goMod, goFdiv, decide_eq_true_eq, Bool.not_eq_true', decide_eq_false_iff_not, ite_not, Bool.and_eq_true, not_false_eq_true, Bool.not_eq_true, List.map_append, Int.zero_add, List.any_cons, List.any_nil, Bool.true_and, Bool.or_false, Bool.xor_false, Bool.false_xor, Bool.true_xor, Bool.not_not, forall_const, Int.toNat_natCast, List.length_map, List.length_append, and_self, ne_eq, List.map_eq_nil_iff, not_true_eq_false, eq_self, goMulI, goSub, goPow, goLe, goGt, goGe, guNeg, gcAbs, goEq_str, goNe_str, goEq_tup, goNe_tup, goEq_lst, goNe_lst, goEq_non, goNe_non, gAndV_k, gOrV_k, gCh_k, blK_bl, ite_bf, reduceCtorEq, Int.reducePow, Int.reduceLT, Int.reduceLE, Int.reduceNeg, sz0, se0, sz1, se1, sz2, se2, sz3, se3, sz4, se4, sz5, se5, sz6, se6, sz7, se7, sz8, se8, sz9, se9, gFld, fldK_ref, gPutF, gPutFM, putFK_ref, gDrf, drfK_ref, gMApp, mlK_ref, gMPop, popK_int, gMIns, ins2K_2, insK_int, gMeth, mthK_ref, gMake, giR3, gFlR1, gFlR2, rg2K_int, gLenSet, lenSetK_lst, lenSetK_tup, gMinD, minDK_lst, giMem, giBA, gMIdx, goTab, gFsort, sortK_lst, sortK_tup])
variable {K : PySem.W.Frag}
theorem RowN.mem {ns : List Int} (h : RowN ns) : lieB .row (.tup (ns.map .int)) = true := isRowB_iff.mpr ⟨ns, rfl, h⟩
def RD.tag : RD → Nat
  | .at_ _ => 0
  | .into _ _ => 1
  | .out _ => 2
  | .find _ => 3
def RD.wOf (n : Nat) : PySem.Str := if n = 0 then "at" else if n = 1 then "into" else if n = 2 then "out" else "find"
theorem RD.wOf_inj : ∀ a < 4, ∀ b < 4, RD.wOf a = RD.wOf b → a = b := by decide
theorem RD.w_of (r : RD) : r.w = RD.wOf r.tag ∧ r.tag < 4 := by cases r <;> exact ⟨rfl, by simp [RD.tag]⟩
theorem RD.inj {r r' : RD} (h : r.d = r'.d) : r = r' := by
  have h := D.tup.inj h
  have h1 : r.w = r'.w := D.str.inj (List.cons.inj h).1
  have h2 : r.ns = r'.ns := (List.map_inj_right fun a b h => D.int.inj h).mp (List.cons.inj h).2
  have h3 : r.tag = r'.tag := RD.wOf_inj _ (RD.w_of r).2 _ (RD.w_of r').2 (by rw [← (RD.w_of r).1, ← (RD.w_of r').1]; exact h1)
  cases r <;> cases r' <;> first | (simp [RD.tag] at h3; done) | (simp only [RD.ns, List.cons.injEq, and_true] at h2; first | (obtain ⟨a, b⟩ := h2; subst a b; rfl) | (subst h2; rfl))
theorem RD.da (r : RD) : r.d.da = true := by
  cases r <;> rfl
theorem sh_row {ns : List Int} (hs : RowN ns) : Sh 1 2000 (.tup (ns.map .int)) := sh_tup (fun d hd => sh_ints (fun n hn => by have := hs.rng n hn; unfold thingN at this; omega) hd) (by have := hs.len; rw [List.length_map]; omega)
end LW
namespace LW
open PySem PySem.Spec PySem.W PyProof.Rows L2 DL
local macro_rules | `(tactic| wp_walk) => `(tactic| simp only [gSeq, gSet, gRet, gRetN, gNext, gIfS, gDrop, gOwn, gApp, gExt, gForM, gLcM, gCnt, gTryV, gTryE, gxP, gxM, DL.Fr.mute, gIPut, gFrz, frz, gAsg, gPar, gPar3, gAug, gRaise, gRetM, gSetM, gMPut, gMGet, g1, g2, gC, gV, gVw, gB, gAnd, gOr, gNot, gNotV, gIf, DL.gCons, DL.gNil, DL.gTup, DL.gLst, gFl, gFd, gCa, gLenS, gPart, gNoP, gDisp, gPcons, gPnil, gtN, gtTup, gtCons, gtNil, gYes, gFor, gLc, giS, gCallP, gCallM, gScr, entry, aSls, aSl, DL.Fr.set, OM.d, wipeF, wipeS, keyD, List.length_cons, List.length_nil, List.cons_append, List.nil_append, List.append_nil, List.replicate_succ, List.replicate_zero, List.getElem?_cons_zero, List.getElem?_cons_succ, List.getElem?_nil, List.set_cons_zero, List.set_cons_succ, Nat.reduceAdd, Nat.reduceSub, if_true, if_false, ite_true, ite_false, reduceIte, Bool.false_eq_true, Bool.not_true, Bool.not_false, List.all_cons, List.all_nil, Bool.and_true, true_and, and_true, List.map_cons, List.map_nil, gIdx, ixT_ints, intsOf_map, Int.reduceToNat, Option.some.injEq, exists_eq_left', goAdd_int, goAdd_str, goAdd_tup, goAdd_lst, goAddW_int, goAddW_lst, goPlus_int, goI_int, guI_int, gcI1_int, goIx_lst, gcLen_lst, gcTupleS_lst, gcList_lst, goRevA_lst, goIx_tup, gcLen_tup, gcTupleS_tup, gcList_tup, goRevA_tup, gcTuple_lst, goIx_str, gcLen_str, gcInt_int, gcInt_bl, goMulT_tup, goMulL_lst, goIsB_bl, goIsN_non, isN_int, isN_bl, isN_str, isN_tup, isN_lst, isN_dic, isN_ref, isN_ty, isN_non, gTru_k, truK_non, truK_bl, truK_int, truK_lst, truK_tup, truK_str, gFlist_k, lstK_lst, lstK_tup, gsSl_k, slK_lst, slK_tup, slK_str, itsD_k, itsK_lst, itsK_tup, giZip_k, zipK_lst, zipK_tup, giR1_k, ran1K_nat, ran1K_int, giR2_k, ran2K_int, goLtA_int, goLtA_tup, ok_non, eqv_bl, goEq_int, goNe_int, goEq_bl, goNe_bl, gcMin_ints, gcMinT_ints, gcMax_ints, gcMaxT_ints, intsOf_mapf, blsOf_mapf, gcMin_f, gcMax_f, gcMin_2, gcMax_2, gcSum_ints, gcSum_f, gcBls_f, all_mapid, any_mapid, at_0, at_1, at_2, at_3, at_last, noOwn_nil, noOwn_1, noOwn_2, nof_n, nof_v, nof_b, nof_s, zipD_map, enumD_map, isi_non_int, isi_non_bool, isi_non_str, isi_non_tuple, isi_non_list, isi_non_dict, isi_bl_int, isi_bl_bool, isi_bl_str, isi_bl_tuple, isi_bl_list, isi_bl_dict, isi_int_int, isi_int_bool, isi_int_str, isi_int_tuple, isi_int_list, isi_int_dict, isi_str_int, isi_str_bool, isi_str_str, isi_str_tuple, isi_str_list, isi_str_dict, isi_tup_int, isi_tup_bool, isi_tup_str, isi_tup_tuple, isi_tup_list, isi_tup_dict, isi_lst_int, isi_lst_bool, isi_lst_str, isi_lst_tuple, isi_lst_list, isi_lst_dict, isi_dic_int, isi_dic_bool, isi_dic_str, isi_dic_tuple, isi_dic_list, isi_dic_dict, gcAll, gcAny, goMod, goFdiv, decide_eq_true_eq, Bool.not_eq_true', decide_eq_false_iff_not, ite_not, Bool.and_eq_true, not_false_eq_true, Bool.not_eq_true, List.map_append, Int.zero_add, List.any_cons, List.any_nil, Bool.true_and, Bool.or_false, Bool.xor_false, Bool.false_xor, Bool.true_xor, Bool.not_not, forall_const, Int.toNat_natCast, List.length_map, List.length_append, and_self, ne_eq, List.map_eq_nil_iff, not_true_eq_false, eq_self, goMulI, goSub, goPow, goLe, goGt, goGe, guNeg, gcAbs, goEq_str, goNe_str, goEq_tup, goNe_tup, goEq_lst, goNe_lst, goEq_non, goNe_non, gAndV_k, gOrV_k, gCh_k, blK_bl, ite_bf, reduceCtorEq, Int.reducePow, Int.reduceLT, Int.reduceLE, Int.reduceNeg, sz0, se0, sz1, se1, sz2, se2, sz3, se3, sz4, se4, sz5, se5, sz6, se6, sz7, se7, sz8, se8, sz9, se9, gFld, fldK_ref, gPutF, gPutFM, putFK_ref, gDrf, drfK_ref, gMApp, mlK_ref, gMPop, popK_int, gMIns, ins2K_2, insK_int, gMeth, mthK_ref, gMake, giR3, gFlR1, gFlR2, rg2K_int, gLenSet, lenSetK_lst, lenSetK_tup, gMinD, minDK_lst, giMem, giBA, gMIdx, goTab, gFsort, sortK_lst, sortK_tup])
local macro_rules | `(tactic| wp_walk using $ts,*) => `(tactic| simp only [$[$ts:term],*, gSeq, gSet, gRet, gRetN, gNext, gIfS, gDrop, gOwn, gApp, gExt, gForM, gLcM, gCnt, gTryV, gTryE, gxP, gxM, DL.Fr.mute, gIPut, gFrz, frz, gAsg, gPar, gPar3, gAug, gRaise, gRetM, gSetM, gMPut, gMGet, g1, g2, gC, gV, gVw, gB, gAnd, gOr, gNot, gNotV, gIf, DL.gCons, DL.gNil, DL.gTup, DL.gLst, gFl, gFd, gCa, gLenS, gPart, gNoP, gDisp, gPcons, gPnil, gtN, gtTup, gtCons, gtNil, gYes, gFor, gLc, giS, gCallP, gCallM, gScr, entry, aSls, aSl, DL.Fr.set, OM.d, wipeF, wipeS, keyD, List.length_cons, List.length_nil, List.cons_append, List.nil_append, List.append_nil, List.replicate_succ, List.replicate_zero, List.getElem?_cons_zero, List.getElem?_cons_succ, List.getElem?_nil, List.set_cons_zero, List.set_cons_succ, Nat.reduceAdd, Nat.reduceSub, if_true, if_false, ite_true, ite_false, reduceIte, Bool.false_eq_true, Bool.not_true, Bool.not_false, List.all_cons, List.all_nil, Bool.and_true, true_and, and_true, List.map_cons, List.map_nil, gIdx, ixT_ints, intsOf_map, Int.reduceToNat, Option.some.injEq, exists_eq_left', goAdd_int, goAdd_str, goAdd_tup, goAdd_lst, goAddW_int, goAddW_lst, goPlus_int, goI_int, guI_int, gcI1_int, goIx_lst, gcLen_lst, gcTupleS_lst, gcList_lst, goRevA_lst, goIx_tup, gcLen_tup, gcTupleS_tup, gcList_tup, goRevA_tup, gcTuple_lst, goIx_str, gcLen_str, gcInt_int, gcInt_bl, goMulT_tup, goMulL_lst, goIsB_bl, goIsN_non, isN_int, isN_bl, isN_str, isN_tup, isN_lst, isN_dic, isN_ref, isN_ty, isN_non, gTru_k, truK_non, truK_bl, truK_int, truK_lst, truK_tup, truK_str, gFlist_k, lstK_lst, lstK_tup, gsSl_k, slK_lst, slK_tup, slK_str, itsD_k, itsK_lst, itsK_tup, giZip_k, zipK_lst, zipK_tup, giR1_k, ran1K_nat, ran1K_int, giR2_k, ran2K_int, goLtA_int, goLtA_tup, ok_non, eqv_bl, goEq_int, goNe_int, goEq_bl, goNe_bl, gcMin_ints, gcMinT_ints, gcMax_ints, gcMaxT_ints, intsOf_mapf, blsOf_mapf, gcMin_f, gcMax_f, gcMin_2, gcMax_2, gcSum_ints, gcSum_f, gcBls_f, all_mapid, any_mapid, at_0, at_1, at_2, at_3, at_last, noOwn_nil, noOwn_1, noOwn_2, nof_n, nof_v, nof_b, nof_s, zipD_map, enumD_map, isi_non_int, isi_non_bool, isi_non_str, isi_non_tuple, isi_non_list, isi_non_dict, isi_bl_int, isi_bl_bool, isi_bl_str, isi_bl_tuple, isi_bl_list, isi_bl_dict, isi_int_int, isi_int_bool, isi_int_str, isi_int_tuple, isi_int_list, isi_int_dict, isi_str_int, isi_str_bool, isi_str_str, isi_str_tuple, isi_str_list, isi_str_dict, isi_tup_int, isi_tup_bool, isi_tup_str, isi_tup_tuple, isi_tup_list, isi_tup_dict, isi_lst_int, isi_lst_bool, isi_lst_str, isi_lst_tuple, isi_lst_list, isi_lst_dict, isi_dic_int, isi_dic_bool, isi_dic_str, isi_dic_tuple, isi_dic_list, isi_dic_dict, gcAll, gcAny, goMod, goFdiv, decide_eq_true_eq, Bool.not_eq_true', decide_eq_false_iff_not, ite_not, Bool.and_eq_true, not_false_eq_true, Bool.not_eq_true, List.map_append, Int.zero_add, List.any_cons, List.any_nil, Bool.true_and, Bool.or_false, Bool.xor_false, Bool.false_xor, Bool.true_xor, Bool.not_not, forall_const, Int.toNat_natCast, List.length_map, List.length_append, and_self, ne_eq, List.map_eq_nil_iff, not_true_eq_false, eq_self, goMulI, goSub, goPow, goLe, goGt, goGe, guNeg, gcAbs, goEq_str, goNe_str, goEq_tup, goNe_tup, goEq_lst, goNe_lst, goEq_non, goNe_non, gAndV_k, gOrV_k, gCh_k, blK_bl, ite_bf, reduceCtorEq, Int.reducePow, Int.reduceLT, Int.reduceLE, Int.reduceNeg, sz0, se0, sz1, se1, sz2, se2, sz3, se3, sz4, se4, sz5, se5, sz6, se6, sz7, se7, sz8, se8, sz9, se9, gFld, fldK_ref, gPutF, gPutFM, putFK_ref, gDrf, drfK_ref, gMApp, mlK_ref, gMPop, popK_int, gMIns, ins2K_2, insK_int, gMeth, mthK_ref, gMake, giR3, gFlR1, gFlR2, rg2K_int, gLenSet, lenSetK_lst, lenSetK_tup, gMinD, minDK_lst, giMem, giBA, gMIdx, goTab, gFsort, sortK_lst, sortK_tup])
variable {K : PySem.W.Frag}
end LW
namespace LW
open PySem PySem.Spec PySem.W PyProof.Rows L2 DL
local macro_rules | `(tactic| wp_walk) => `(tactic| simp only [gSeq, gSet, gRet, gRetN, gNext, gIfS, gDrop, gOwn, gApp, gExt, gForM, gLcM, gCnt, gTryV, gTryE, gxP, gxM, DL.Fr.mute, gIPut, gFrz, frz, gAsg, gPar, gPar3, gAug, gRaise, gRetM, gSetM, gMPut, gMGet, g1, g2, gC, gV, gVw, gB, gAnd, gOr, gNot, gNotV, gIf, DL.gCons, DL.gNil, DL.gTup, DL.gLst, gFl, gFd, gCa, gLenS, gPart, gNoP, gDisp, gPcons, gPnil, gtN, gtTup, gtCons, gtNil, gYes, gFor, gLc, giS, gCallP, gCallM, gScr, entry, aSls, aSl, DL.Fr.set, OM.d, wipeF, wipeS, keyD, List.length_cons, List.length_nil, List.cons_append, List.nil_append, List.append_nil, List.replicate_succ, List.replicate_zero, List.getElem?_cons_zero, List.getElem?_cons_succ, List.getElem?_nil, List.set_cons_zero, List.set_cons_succ, Nat.reduceAdd, Nat.reduceSub, if_true, if_false, ite_true, ite_false, reduceIte, Bool.false_eq_true, Bool.not_true, Bool.not_false, List.all_cons, List.all_nil, Bool.and_true, true_and, and_true, List.map_cons, List.map_nil, gIdx, ixT_ints, intsOf_map, Int.reduceToNat, Option.some.injEq, exists_eq_left', goAdd_int, goAdd_str, goAdd_tup, goAdd_lst, goAddW_int, goAddW_lst, goPlus_int, goI_int, guI_int, gcI1_int, goIx_lst, gcLen_lst, gcTupleS_lst, gcList_lst, goRevA_lst, goIx_tup, gcLen_tup, gcTupleS_tup, gcList_tup, goRevA_tup, gcTuple_lst, goIx_str, gcLen_str, gcInt_int, gcInt_bl, goMulT_tup, goMulL_lst, goIsB_bl, goIsN_non, isN_int, isN_bl, isN_str, isN_tup, isN_lst, isN_dic, isN_ref, isN_ty, isN_non, gTru_k, truK_non, truK_bl, truK_int, truK_lst, truK_tup, truK_str, gFlist_k, lstK_lst, lstK_tup, gsSl_k, slK_lst, slK_tup, slK_str, itsD_k, itsK_lst, itsK_tup, giZip_k, zipK_lst, zipK_tup, giR1_k, ran1K_nat, ran1K_int, giR2_k, ran2K_int, goLtA_int, goLtA_tup, ok_non, eqv_bl, goEq_int, goNe_int, goEq_bl, goNe_bl, gcMin_ints, gcMinT_ints, gcMax_ints, gcMaxT_ints, intsOf_mapf, blsOf_mapf, gcMin_f, gcMax_f, gcMin_2, gcMax_2, gcSum_ints, gcSum_f, gcBls_f, all_mapid, any_mapid, at_0, at_1, at_2, at_3, at_last, noOwn_nil, noOwn_1, noOwn_2, nof_n, nof_v, nof_b, nof_s, zipD_map, enumD_map, isi_non_int, isi_non_bool, isi_non_str, isi_non_tuple, isi_non_list, isi_non_dict, isi_bl_int, isi_bl_bool, isi_bl_str, isi_bl_tuple, isi_bl_list, isi_bl_dict, isi_int_int, isi_int_bool, isi_int_str, isi_int_tuple, isi_int_list, isi_int_dict, isi_str_int, isi_str_bool, isi_str_str, isi_str_tuple, isi_str_list, isi_str_dict, isi_tup_int, isi_tup_bool, isi_tup_str, isi_tup_tuple, isi_tup_list, isi_tup_dict, isi_lst_int, isi_lst_bool, isi_lst_str, isi_lst_tuple, isi_lst_list, isi_lst_dict, isi_dic_int, isi_dic_bool, isi_dic_str, isi_dic_tuple, isi_dic_list, isi_dic_dict, gcAll, gcAny, goMod, goFdiv, decide_eq_true_eq, Bool.not_eq_true', decide_eq_false_iff_not, ite_not, Bool.and_eq_true, not_false_eq_true, Bool.not_eq_true, List.map_append, Int.zero_add, List.any_cons, List.any_nil, Bool.true_and, Bool.or_false, Bool.xor_false, Bool.false_xor, Bool.true_xor, Bool.not_not, forall_const, Int.toNat_natCast, List.length_map, List.length_append, and_self, ne_eq, List.map_eq_nil_iff, not_true_eq_false, eq_self, goMulI, goSub, goPow, goLe, goGt, goGe, guNeg, gcAbs, goEq_str, goNe_str, goEq_tup, goNe_tup, goEq_lst, goNe_lst, goEq_non, goNe_non, gAndV_k, gOrV_k, gCh_k, blK_bl, ite_bf, reduceCtorEq, Int.reducePow, Int.reduceLT, Int.reduceLE, Int.reduceNeg, sz0, se0, sz1, se1, sz2, se2, sz3, se3, sz4, se4, sz5, se5, sz6, se6, sz7, se7, sz8, se8, sz9, se9, gFld, fldK_ref, gPutF, gPutFM, putFK_ref, gDrf, drfK_ref, gMApp, mlK_ref, gMPop, popK_int, gMIns, ins2K_2, insK_int, gMeth, mthK_ref, gMake, giR3, gFlR1, gFlR2, rg2K_int, gLenSet, lenSetK_lst, lenSetK_tup, gMinD, minDK_lst, giMem, giBA, gMIdx, goTab, gFsort, sortK_lst, sortK_tup])
local macro_rules | `(tactic| wp_walk using $ts,*) => `(tactic| simp only [$[$ts:term],*, gSeq, gSet, gRet, gRetN, gNext, gIfS, gDrop, gOwn, gApp, gExt, gForM, gLcM, gCnt, gTryV, gTryE, gxP, gxM, DL.Fr.mute, gIPut, gFrz, frz, gAsg, gPar, gPar3, gAug, gRaise, gRetM, gSetM, gMPut, gMGet, g1, g2, gC, gV, gVw, gB, gAnd, gOr, gNot, gNotV, gIf, DL.gCons, DL.gNil, DL.gTup, DL.gLst, gFl, gFd, gCa, gLenS, gPart, gNoP, gDisp, gPcons, gPnil, gtN, gtTup, gtCons, gtNil, gYes, gFor, gLc, giS, gCallP, gCallM, gScr, entry, aSls, aSl, DL.Fr.set, OM.d, wipeF, wipeS, keyD, List.length_cons, List.length_nil, List.cons_append, List.nil_append, List.append_nil, List.replicate_succ, List.replicate_zero, List.getElem?_cons_zero, List.getElem?_cons_succ, List.getElem?_nil, List.set_cons_zero, List.set_cons_succ, Nat.reduceAdd, Nat.reduceSub, if_true, if_false, ite_true, ite_false, reduceIte, Bool.false_eq_true, Bool.not_true, Bool.not_false, List.all_cons, List.all_nil, Bool.and_true, true_and, and_true, List.map_cons, List.map_nil, gIdx, ixT_ints, intsOf_map, Int.reduceToNat, Option.some.injEq, exists_eq_left', goAdd_int, goAdd_str, goAdd_tup, goAdd_lst, goAddW_int, goAddW_lst, goPlus_int, goI_int, guI_int, gcI1_int, goIx_lst, gcLen_lst, gcTupleS_lst, gcList_lst, goRevA_lst, goIx_tup, gcLen_tup, gcTupleS_tup, gcList_tup, goRevA_tup, gcTuple_lst, goIx_str, gcLen_str, gcInt_int, gcInt_bl, goMulT_tup, goMulL_lst, goIsB_bl, goIsN_non, isN_int, isN_bl, isN_str, isN_tup, isN_lst, isN_dic, isN_ref, isN_ty, isN_non, gTru_k, truK_non, truK_bl, truK_int, truK_lst, truK_tup, truK_str, gFlist_k, lstK_lst, lstK_tup, gsSl_k, slK_lst, slK_tup, slK_str, itsD_k, itsK_lst, itsK_tup, giZip_k, zipK_lst, zipK_tup, giR1_k, ran1K_nat, ran1K_int, giR2_k, ran2K_int, goLtA_int, goLtA_tup, ok_non, eqv_bl, goEq_int, goNe_int, goEq_bl, goNe_bl, gcMin_ints, gcMinT_ints, gcMax_ints, gcMaxT_ints, intsOf_mapf, blsOf_mapf, gcMin_f, gcMax_f, gcMin_2, gcMax_2, gcSum_ints, gcSum_f, gcBls_f, all_mapid, any_mapid, at_0, at_1, at_2, at_3, at_last, noOwn_nil, noOwn_1, noOwn_2, nof_n, nof_v, nof_b, nof_s, zipD_map, enumD_map, isi_non_int, isi_non_bool, isi_non_str, isi_non_tuple, isi_non_list, isi_non_dict, isi_bl_int, isi_bl_bool, isi_bl_str, isi_bl_tuple, isi_bl_list, isi_bl_dict, isi_int_int, isi_int_bool, isi_int_str, isi_int_tuple, isi_int_list, isi_int_dict, isi_str_int, isi_str_bool, isi_str_str, isi_str_tuple, isi_str_list, isi_str_dict, isi_tup_int, isi_tup_bool, isi_tup_str, isi_tup_tuple, isi_tup_list, isi_tup_dict, isi_lst_int, isi_lst_bool, isi_lst_str, isi_lst_tuple, isi_lst_list, isi_lst_dict, isi_dic_int, isi_dic_bool, isi_dic_str, isi_dic_tuple, isi_dic_list, isi_dic_dict, gcAll, gcAny, goMod, goFdiv, decide_eq_true_eq, Bool.not_eq_true', decide_eq_false_iff_not, ite_not, Bool.and_eq_true, not_false_eq_true, Bool.not_eq_true, List.map_append, Int.zero_add, List.any_cons, List.any_nil, Bool.true_and, Bool.or_false, Bool.xor_false, Bool.false_xor, Bool.true_xor, Bool.not_not, forall_const, Int.toNat_natCast, List.length_map, List.length_append, and_self, ne_eq, List.map_eq_nil_iff, not_true_eq_false, eq_self, goMulI, goSub, goPow, goLe, goGt, goGe, guNeg, gcAbs, goEq_str, goNe_str, goEq_tup, goNe_tup, goEq_lst, goNe_lst, goEq_non, goNe_non, gAndV_k, gOrV_k, gCh_k, blK_bl, ite_bf, reduceCtorEq, Int.reducePow, Int.reduceLT, Int.reduceLE, Int.reduceNeg, sz0, se0, sz1, se1, sz2, se2, sz3, se3, sz4, se4, sz5, se5, sz6, se6, sz7, se7, sz8, se8, sz9, se9, gFld, fldK_ref, gPutF, gPutFM, putFK_ref, gDrf, drfK_ref, gMApp, mlK_ref, gMPop, popK_int, gMIns, ins2K_2, insK_int, gMeth, mthK_ref, gMake, giR3, gFlR1, gFlR2, rg2K_int, gLenSet, lenSetK_lst, lenSetK_tup, gMinD, minDK_lst, giMem, giBA, gMIdx, goTab, gFsort, sortK_lst, sortK_tup])
variable {K : PySem.W.Frag}
def eight (row : List Int) (i : Nat) : List Int := (row.drop (8 * i)).take 8
def chk (row : List Int) : List (List Int) := (List.range ((row.length + 7) / 8)).map (eight row)
def tI (ns : List Int) : D := .tup (ns.map .int)
def lI (ns : List Int) : D := .lst (ns.map .int)
theorem chk_len (row : List Int) : (chk row).length = (row.length + 7) / 8 := by unfold chk; rw [List.length_map, List.length_range]
theorem cutD_mid {xs : List D} {a b : Int} (a0 : 0 ≤ a) (h : a ≤ xs.length) (hab : a ≤ b) : DL.cutD xs (some a) (some b) = (xs.drop a.toNat).take (b.toNat - a.toNat) := by
  obtain ⟨a, rfl⟩ := Int.eq_ofNat_of_zero_le a0
  obtain ⟨b, rfl⟩ := Int.eq_ofNat_of_zero_le (show 0 ≤ b by omega)
  unfold DL.cutD
  have ha : a ≤ xs.length := by omega
  rw [HT.sIx_nat, HT.sIx_nat, Int.toNat_natCast, Int.toNat_natCast, show min a xs.length = a from Nat.min_eq_left ha]
  by_cases hb : b ≤ xs.length
  · rw [show min b xs.length = b from Nat.min_eq_left hb]
  · rw [show min b xs.length = xs.length from Nat.min_eq_right (by omega), List.take_of_length_le (by rw [List.length_drop]; exact Nat.le_refl _), List.take_of_length_le (by rw [List.length_drop]; omega)]
theorem rg8 {n : Nat} (h : n ≤ 1000) : RgC 0 (n : Nat) 8 ((n + 7) / 8) := by
  have e : Builtin.Range.rangeSize 0 (n : Nat) 8 = ((n + 7) / 8 : Nat) := by
    unfold Builtin.Range.rangeSize
    rw [if_pos (by decide)]
    split <;> omega
  refine ⟨by decide, by decide, ?_, e⟩
  have f : ∀ i : Int, -100000 ≤ i → i ≤ 100000 → Builtin.Range.rangeFitsLong i = true := fun i h1 h2 => by
    unfold Builtin.Range.rangeFitsLong
    rw [decide_eq_true (by omega), decide_eq_true (by omega)]
    rfl
  unfold Builtin.Range.small
  rw [e]
  rw [f 0 (by omega) (by omega), f n (by omega) (by omega), f 8 (by omega) (by omega), f (((n + 7) / 8 : Nat) : Int) (by omega) (by omega), if_pos (by decide), f _ (by omega) (by omega)]
  simp only [Bool.and_self, Bool.or_true]
theorem cut_eight {row : List Int} {i : Nat} (h : i < (row.length + 7) / 8) : DL.cutD (row.map D.int) (some (0 + (i : Int) * 8)) (some (0 + (i : Int) * 8 + 8)) = (eight row i).map D.int := by
  rw [cutD_mid (by omega) (by rw [List.length_map]; omega) (by omega), show (0 + (i : Int) * 8).toNat = 8 * i by omega, show (0 + (i : Int) * 8 + 8).toNat = 8 * i + 8 by omega, show 8 * i + 8 - 8 * i = 8 by omega, ← List.map_drop, ← List.map_take]
  rfl
end LW
namespace LW
open PySem PySem.Spec PySem.W PyProof.Rows L2 DL
local macro_rules | `(tactic| wp_walk) => `(tactic| simp only [gSeq, gSet, gRet, gRetN, gNext, gIfS, gDrop, gOwn, gApp, gExt, gForM, gLcM, gCnt, gTryV, gTryE, gxP, gxM, DL.Fr.mute, gIPut, gFrz, frz, gAsg, gPar, gPar3, gAug, gRaise, gRetM, gSetM, gMPut, gMGet, g1, g2, gC, gV, gVw, gB, gAnd, gOr, gNot, gNotV, gIf, DL.gCons, DL.gNil, DL.gTup, DL.gLst, gFl, gFd, gCa, gLenS, gPart, gNoP, gDisp, gPcons, gPnil, gtN, gtTup, gtCons, gtNil, gYes, gFor, gLc, giS, gCallP, gCallM, gScr, entry, aSls, aSl, DL.Fr.set, OM.d, wipeF, wipeS, keyD, List.length_cons, List.length_nil, List.cons_append, List.nil_append, List.append_nil, List.replicate_succ, List.replicate_zero, List.getElem?_cons_zero, List.getElem?_cons_succ, List.getElem?_nil, List.set_cons_zero, List.set_cons_succ, Nat.reduceAdd, Nat.reduceSub, if_true, if_false, ite_true, ite_false, reduceIte, Bool.false_eq_true, Bool.not_true, Bool.not_false, List.all_cons, List.all_nil, Bool.and_true, true_and, and_true, List.map_cons, List.map_nil, gIdx, ixT_ints, intsOf_map, Int.reduceToNat, Option.some.injEq, exists_eq_left', goAdd_int, goAdd_str, goAdd_tup, goAdd_lst, goAddW_int, goAddW_lst, goPlus_int, goI_int, guI_int, gcI1_int, goIx_lst, gcLen_lst, gcTupleS_lst, gcList_lst, goRevA_lst, goIx_tup, gcLen_tup, gcTupleS_tup, gcList_tup, goRevA_tup, gcTuple_lst, goIx_str, gcLen_str, gcInt_int, gcInt_bl, goMulT_tup, goMulL_lst, goIsB_bl, goIsN_non, isN_int, isN_bl, isN_str, isN_tup, isN_lst, isN_dic, isN_ref, isN_ty, isN_non, gTru_k, truK_non, truK_bl, truK_int, truK_lst, truK_tup, truK_str, gFlist_k, lstK_lst, lstK_tup, gsSl_k, slK_lst, slK_tup, slK_str, itsD_k, itsK_lst, itsK_tup, giZip_k, zipK_lst, zipK_tup, giR1_k, ran1K_nat, ran1K_int, giR2_k, ran2K_int, goLtA_int, goLtA_tup, ok_non, eqv_bl, goEq_int, goNe_int, goEq_bl, goNe_bl, gcMin_ints, gcMinT_ints, gcMax_ints, gcMaxT_ints, intsOf_mapf, blsOf_mapf, gcMin_f, gcMax_f, gcMin_2, gcMax_2, gcSum_ints, gcSum_f, gcBls_f, all_mapid, any_mapid, at_0, at_1, at_2, at_3, at_last, noOwn_nil, noOwn_1, noOwn_2, nof_n, nof_v, nof_b, nof_s, zipD_map, enumD_map, isi_non_int, isi_non_bool, isi_non_str, isi_non_tuple, isi_non_list, isi_non_dict, isi_bl_int, isi_bl_bool, isi_bl_str, isi_bl_tuple, isi_bl_list, isi_bl_dict, isi_int_int, isi_int_bool, isi_int_str, isi_int_tuple, isi_int_list, isi_int_dict, isi_str_int, isi_str_bool, isi_str_str, isi_str_tuple, isi_str_list, isi_str_dict, isi_tup_int, isi_tup_bool, isi_tup_str, isi_tup_tuple, isi_tup_list, isi_tup_dict, isi_lst_int, isi_lst_bool, isi_lst_str, isi_lst_tuple, isi_lst_list, isi_lst_dict, isi_dic_int, isi_dic_bool, isi_dic_str, isi_dic_tuple, isi_dic_list, isi_dic_dict, gcAll, gcAny, goMod, goFdiv, decide_eq_true_eq, Bool.not_eq_true', decide_eq_false_iff_not, ite_not, Bool.and_eq_true, not_false_eq_true, Bool.not_eq_true, List.map_append, Int.zero_add, List.any_cons, List.any_nil, Bool.true_and, Bool.or_false, Bool.xor_false, Bool.false_xor, Bool.true_xor, Bool.not_not, forall_const, Int.toNat_natCast, List.length_map, List.length_append, and_self, ne_eq, List.map_eq_nil_iff, not_true_eq_false, eq_self, goMulI, goSub, goPow, goLe, goGt, goGe, guNeg, gcAbs, goEq_str, goNe_str, goEq_tup, goNe_tup, goEq_lst, goNe_lst, goEq_non, goNe_non, gAndV_k, gOrV_k, gCh_k, blK_bl, ite_bf, reduceCtorEq, Int.reducePow, Int.reduceLT, Int.reduceLE, Int.reduceNeg, sz0, se0, sz1, se1, sz2, se2, sz3, se3, sz4, se4, sz5, se5, sz6, se6, sz7, se7, sz8, se8, sz9, se9, gFld, fldK_ref, gPutF, gPutFM, putFK_ref, gDrf, drfK_ref, gMApp, mlK_ref, gMPop, popK_int, gMIns, ins2K_2, insK_int, gMeth, mthK_ref, gMake, giR3, gFlR1, gFlR2, rg2K_int, gLenSet, lenSetK_lst, lenSetK_tup, gMinD, minDK_lst, giMem, giBA, gMIdx, goTab, gFsort, sortK_lst, sortK_tup])
local macro_rules | `(tactic| wp_walk using $ts,*) => `(tactic| simp only [$[$ts:term],*, gSeq, gSet, gRet, gRetN, gNext, gIfS, gDrop, gOwn, gApp, gExt, gForM, gLcM, gCnt, gTryV, gTryE, gxP, gxM, DL.Fr.mute, gIPut, gFrz, frz, gAsg, gPar, gPar3, gAug, gRaise, gRetM, gSetM, gMPut, gMGet, g1, g2, gC, gV, gVw, gB, gAnd, gOr, gNot, gNotV, gIf, DL.gCons, DL.gNil, DL.gTup, DL.gLst, gFl, gFd, gCa, gLenS, gPart, gNoP, gDisp, gPcons, gPnil, gtN, gtTup, gtCons, gtNil, gYes, gFor, gLc, giS, gCallP, gCallM, gScr, entry, aSls, aSl, DL.Fr.set, OM.d, wipeF, wipeS, keyD, List.length_cons, List.length_nil, List.cons_append, List.nil_append, List.append_nil, List.replicate_succ, List.replicate_zero, List.getElem?_cons_zero, List.getElem?_cons_succ, List.getElem?_nil, List.set_cons_zero, List.set_cons_succ, Nat.reduceAdd, Nat.reduceSub, if_true, if_false, ite_true, ite_false, reduceIte, Bool.false_eq_true, Bool.not_true, Bool.not_false, List.all_cons, List.all_nil, Bool.and_true, true_and, and_true, List.map_cons, List.map_nil, gIdx, ixT_ints, intsOf_map, Int.reduceToNat, Option.some.injEq, exists_eq_left', goAdd_int, goAdd_str, goAdd_tup, goAdd_lst, goAddW_int, goAddW_lst, goPlus_int, goI_int, guI_int, gcI1_int, goIx_lst, gcLen_lst, gcTupleS_lst, gcList_lst, goRevA_lst, goIx_tup, gcLen_tup, gcTupleS_tup, gcList_tup, goRevA_tup, gcTuple_lst, goIx_str, gcLen_str, gcInt_int, gcInt_bl, goMulT_tup, goMulL_lst, goIsB_bl, goIsN_non, isN_int, isN_bl, isN_str, isN_tup, isN_lst, isN_dic, isN_ref, isN_ty, isN_non, gTru_k, truK_non, truK_bl, truK_int, truK_lst, truK_tup, truK_str, gFlist_k, lstK_lst, lstK_tup, gsSl_k, slK_lst, slK_tup, slK_str, itsD_k, itsK_lst, itsK_tup, giZip_k, zipK_lst, zipK_tup, giR1_k, ran1K_nat, ran1K_int, giR2_k, ran2K_int, goLtA_int, goLtA_tup, ok_non, eqv_bl, goEq_int, goNe_int, goEq_bl, goNe_bl, gcMin_ints, gcMinT_ints, gcMax_ints, gcMaxT_ints, intsOf_mapf, blsOf_mapf, gcMin_f, gcMax_f, gcMin_2, gcMax_2, gcSum_ints, gcSum_f, gcBls_f, all_mapid, any_mapid, at_0, at_1, at_2, at_3, at_last, noOwn_nil, noOwn_1, noOwn_2, nof_n, nof_v, nof_b, nof_s, zipD_map, enumD_map, isi_non_int, isi_non_bool, isi_non_str, isi_non_tuple, isi_non_list, isi_non_dict, isi_bl_int, isi_bl_bool, isi_bl_str, isi_bl_tuple, isi_bl_list, isi_bl_dict, isi_int_int, isi_int_bool, isi_int_str, isi_int_tuple, isi_int_list, isi_int_dict, isi_str_int, isi_str_bool, isi_str_str, isi_str_tuple, isi_str_list, isi_str_dict, isi_tup_int, isi_tup_bool, isi_tup_str, isi_tup_tuple, isi_tup_list, isi_tup_dict, isi_lst_int, isi_lst_bool, isi_lst_str, isi_lst_tuple, isi_lst_list, isi_lst_dict, isi_dic_int, isi_dic_bool, isi_dic_str, isi_dic_tuple, isi_dic_list, isi_dic_dict, gcAll, gcAny, goMod, goFdiv, decide_eq_true_eq, Bool.not_eq_true', decide_eq_false_iff_not, ite_not, Bool.and_eq_true, not_false_eq_true, Bool.not_eq_true, List.map_append, Int.zero_add, List.any_cons, List.any_nil, Bool.true_and, Bool.or_false, Bool.xor_false, Bool.false_xor, Bool.true_xor, Bool.not_not, forall_const, Int.toNat_natCast, List.length_map, List.length_append, and_self, ne_eq, List.map_eq_nil_iff, not_true_eq_false, eq_self, goMulI, goSub, goPow, goLe, goGt, goGe, guNeg, gcAbs, goEq_str, goNe_str, goEq_tup, goNe_tup, goEq_lst, goNe_lst, goEq_non, goNe_non, gAndV_k, gOrV_k, gCh_k, blK_bl, ite_bf, reduceCtorEq, Int.reducePow, Int.reduceLT, Int.reduceLE, Int.reduceNeg, sz0, se0, sz1, se1, sz2, se2, sz3, se3, sz4, se4, sz5, se5, sz6, se6, sz7, se7, sz8, se8, sz9, se9, gFld, fldK_ref, gPutF, gPutFM, putFK_ref, gDrf, drfK_ref, gMApp, mlK_ref, gMPop, popK_int, gMIns, ins2K_2, insK_int, gMeth, mthK_ref, gMake, giR3, gFlR1, gFlR2, rg2K_int, gLenSet, lenSetK_lst, lenSetK_tup, gMinD, minDK_lst, giMem, giBA, gMIdx, goTab, gFsort, sortK_lst, sortK_tup])
variable {K : PySem.W.Frag}
def fs_p_need_row (K : PySem.W.Frag) : FS := fun ds M Q X => ∃ d, ds = [d] ∧ d.da = true ∧ (lieB .row d = true → Q .non M) ∧ (lieB .row d = false → X (He.ga K "NoThings") M)
theorem mo_p_need_row {K : PySem.W.Frag} : MonoF (fs_p_need_row K) := fun _ _ _ _ _ _ h hx ⟨d, e, c, q, q2⟩ => ⟨d, e, c, fun z => h _ _ (q z), fun z => hx _ _ (q2 z)⟩
/-- need_row -/
def g_p_need_row (K : PySem.W.Frag) : GS := gIfS (gNot (gTru (gCallP (fs_p_is_things K) (gCons (gC (.str "row")) (gCons (gV 0) gNil))))) (gRaise (He.ga K "NoThings")) (gNext)
theorem h_p_need_row {K : PySem.W.Frag} : ∀ ds M Q X, (fs_p_need_row K) ds M Q X → ds.length = ([.v] : List AK).length → g_p_need_row K { nx := fun _ M' => Q .non M', rt := Q } (entry 1 [.v] ds X) M := by
  rintro ds M Q X ⟨d, rfl, hd, q, q2⟩ -
  wp_walk using g_p_need_row
  refine ⟨.str "row", d, rfl, rfl, hd, fun z => (by cases z), fun so e => ?_⟩
  have e2 : so = .row := by cases so <;> first | rfl | exact absurd (D.str.inj e) (by decide)
  subst e2
  cases h : lieB .row d with
  | true =>
    wp_walk
    exact q h
  | false =>
    wp_walk
    exact q2 h
theorem lk_there (v : Fl) : List.lookup ("there" : PySem.Str) [(("there" : PySem.Str), v)] = some v := rfl
theorem lk_chain (v : Fl) : List.lookup ("chain" : PySem.Str) [(("chain" : PySem.Str), v)] = some v := rfl
theorem lk_blocks (v : Fl) : List.lookup ("blocks" : PySem.Str) [(("blocks" : PySem.Str), v)] = some v := rfl
inductive KR where
  | strip | chain | blocks
def chnD : List Int → D
  | [] => .tup []
  | x :: r => .tup [.int x, chnD r]
def RowAt (K : PySem.W.Frag) : KR → Mem → Addr → Addr → List Int → Prop
  | .strip, M, a, l, ns => M a = some (.ins (He.ga K "Strip") [("there", .v (.ref l))]) ∧ M l = some (.om (.lst (ns.map .int))) ∧ Cls K (He.ga K "Strip") ∧ NoAttr K (He.ga K "Strip") "there"
  | .chain, M, a, l, ns => M a = some (.ins (He.ga K "Chain") [("chain", .v (chnD ns))]) ∧ l = a ∧ Cls K (He.ga K "Chain") ∧ NoAttr K (He.ga K "Chain") "chain"
  | .blocks, M, a, l, ns => M a = some (.ins (He.ga K "Blocks") [("blocks", .v (.lst ((chk ns).map lI)))]) ∧ l = a ∧ Cls K (He.ga K "Blocks") ∧ NoAttr K (He.ga K "Blocks") "blocks"
def frmR : KR → List Int → D
  | .strip, ns => .tup (ns.map .int)
  | .chain, ns => chnD ns
  | .blocks, ns => .tup ((chk ns).map tI)
def KR.C : KR → PySem.Str
  | .strip => "Strip"
  | .chain => "Chain"
  | .blocks => "Blocks"
def KR.f : KR → PySem.Str
  | .strip => "there"
  | .chain => "chain"
  | .blocks => "blocks"
def fsRi (K : PySem.W.Frag) (k : KR) : FS := fun ds M Q X => ∃ a d, ds = [.ref a, d] ∧ M a = some (.ins (He.ga K k.C) []) ∧ Cls K (He.ga K k.C) ∧ NoAttr K (He.ga K k.C) k.f ∧ d.da = true ∧ (lieB .row d = false → X (He.ga K "NoThings") M) ∧
  ∀ (ns : List Int) (M' : Mem) (l : Addr), d = .tup (ns.map .int) → RowN ns → (∀ b, M b ≠ none → b ≠ a → M' b = M b) → (l = a ∨ M l = none) → RowAt K k M' a l ns → Q .non M'
theorem fsRi_mono {K : PySem.W.Frag} {k : KR} : MonoF (fsRi K k) := fun _ _ _ _ _ _ h hx ⟨a, d, e, c, c2, c3, c4, q, q2⟩ => ⟨a, d, e, c, c2, c3, c4, fun z => hx _ _ (q z), fun ns M' l z1 z2 z3 z4 z5 => h _ _ (q2 ns M' l z1 z2 z3 z4 z5)⟩
theorem sh_two {k w k2 w2 : Nat} {d e : D} (h1 : Sh k w d) (h2 : Sh k2 w2 e) : Sh (max k k2 + 1) (w + w2 + 2) (.tup [d, e]) := by
  obtain ⟨a1, a2, a3, a4, a5, a6⟩ := h1
  obtain ⟨b1, b2, b3, b4, b5, b6⟩ := h2
  refine ⟨?_, ?_, ?_, ?_, ?_, ?_⟩
  · simp only [D.pl, D.plL, a1, b1]; rfl
  · simp only [D.py, D.pyL, PyData.canLay0, PyData.canLayAll0, a2, b2]; rfl
  · simp only [D.py, D.pyL, PyData.depth, PyData.depthAll]; omega
  · simp only [D.py, D.pyL, PyData.weight, PyData.weightAll]; omega
  · simp only [D.py, D.pyL, PyData.showable, PyData.showableAll, a5, b5]; rfl
  · simp only [D.py, D.pyL, PyData.leavesShort, PyData.leavesShortAll, a6, b6]; rfl
theorem sh_chn : ∀ {ns : List Int}, (∀ n ∈ ns, n.natAbs < 10 ^ 12) → Sh (ns.length + 1) (ns.length * 42) (chnD ns)
  | [], _ => sh_tup (k := 0) (w := 0) (ds := []) (fun d hd => by cases hd) (Nat.le_refl _)
  | n :: r, h => (sh_two (sh_int (h n (List.mem_cons_self ..))) (sh_chn (ns := r) fun x hx => h x (List.mem_cons_of_mem _ hx))).mono (by rw [List.length_cons]; omega) (by rw [List.length_cons]; omega)
theorem RowN.abs {ns : List Int} (hs : RowN ns) : ∀ n ∈ ns, n.natAbs < 10 ^ 12 := fun n hn => by have := hs.rng n hn; unfold thingN at this; omega
theorem sh_frm {ns : List Int} (hs : RowN ns) (k : KR) : Sh 42 100000 (frmR k ns) := by
  have hl := hs.len
  cases k
  · exact (sh_row hs).mono (by decide) (by decide)
  · exact (sh_chn hs.abs).mono (by omega) (by omega)
  · refine (sh_tup (k := 1) (w := 400) (v := 100000) (fun d hd => ?_) ?_).mono (by decide) (by decide)
    · obtain ⟨b, hb, rfl⟩ := List.mem_map.mp hd
      obtain ⟨i, hi, rfl⟩ := List.mem_map.mp hb
      unfold tI eight
      refine sh_tup (k := 0) (w := 40) (fun d hd => sh_ints (fun n hn => hs.abs n (List.mem_of_mem_drop (List.mem_of_mem_take hn))) hd) ?_
      rw [List.length_map, List.length_take]
      omega
    · rw [List.length_map, chk_len]
      omega
/-- nothing else changes -/
def Only2 (M M' : Mem) (a l : Addr) : Prop := ∀ b, b ≠ a → b ≠ l → M' b = M b
def fsRf (K : PySem.W.Frag) (k : KR) : FS := fun ds M Q _ => ∃ a l ns, ds = [.ref a] ∧ RowAt K k M a l ns ∧ RowN ns ∧ Q (frmR k ns) M
theorem fsRf_mono {K : PySem.W.Frag} {k : KR} : MonoF (fsRf K k) := fun _ _ _ _ _ _ h _ ⟨a, l, ns, e, c, c2, q⟩ => ⟨a, l, ns, e, c, c2, h _ _ q⟩
def fs_Strip___init__ (K : PySem.W.Frag) : FS := fsRi K .strip
theorem mo_Strip___init__ {K : PySem.W.Frag} : MonoF (fs_Strip___init__ K) := fsRi_mono
def Fk_Strip (K : PySem.W.Frag) : Prop := Cls K (He.ga K "Strip") ∧ NoAttr K (He.ga K "Strip") "there"
/-- Strip.__init__ -/
def g_Strip___init__ (K : PySem.W.Frag) : GS := gSeq (gDrop (gCallP (fs_p_need_row K) (gCons (gV 1) gNil))) (gPutFM K "there" (gV 0) (gFlist (gV 1)))
theorem h_Strip___init__ {K : PySem.W.Frag} : ∀ ds M Q X, (fs_Strip___init__ K) ds M Q X → ds.length = ([.v, .v] : List AK).length → g_Strip___init__ K { nx := fun _ M' => Q .non M', rt := Q } (entry 2 [.v, .v] ds X) M := by
  rintro ds M Q X ⟨a, d, rfl, ma, hc, hn, hd, q, q2⟩ -
  wp_walk using g_Strip___init__
  refine ⟨d, rfl, hd, fun h => ?_, q⟩
  obtain ⟨ns, rfl, hs⟩ := isRowB_iff.mp h
  wp_walk
  intro l nl
  have nal : a ≠ l := fun e => by rw [e, nl] at ma; cases ma
  rw [mup_ne nal, ma]
  refine ⟨⟨hc, hn⟩, by simp, q2 ns _ l rfl hs (fun b hb hba => ?_) (.inr nl) ⟨mup_same, ?_, hc, hn⟩⟩
  · rw [mup_ne hba, mup_ne fun e => hb (by rw [e]; exact nl)]
  · rw [mup_ne (Ne.symm nal), mup_same]
def fs_Strip_form (K : PySem.W.Frag) : FS := fsRf K .strip
theorem mo_Strip_form {K : PySem.W.Frag} : MonoF (fs_Strip_form K) := fsRf_mono
/-- Strip.form -/
def g_Strip_form (K : PySem.W.Frag) : GS := gRet (gCa gcTuple (gCons (gDrf (gFld K "there" (gV 0))) gNil))
theorem h_Strip_form {K : PySem.W.Frag} : ∀ ds M Q X, (fs_Strip_form K) ds M Q X → ds.length = ([.v] : List AK).length → g_Strip_form K { nx := fun _ M' => Q .non M', rt := Q } (entry 1 [.v] ds X) M := by
  rintro ds M Q X ⟨a, l, ns, rfl, ⟨ma, ml, hc, hn⟩, hs, q⟩ -
  wp_walk using g_Strip_form, ma, ml, hc, hn, lk_there
  exact q
end LW
namespace LW
open PySem PySem.Spec PySem.W PyProof.Rows L2 DL
local macro_rules | `(tactic| wp_walk) => `(tactic| simp only [gSeq, gSet, gRet, gRetN, gNext, gIfS, gDrop, gOwn, gApp, gExt, gForM, gLcM, gCnt, gTryV, gTryE, gxP, gxM, DL.Fr.mute, gIPut, gFrz, frz, gAsg, gPar, gPar3, gAug, gRaise, gRetM, gSetM, gMPut, gMGet, g1, g2, gC, gV, gVw, gB, gAnd, gOr, gNot, gNotV, gIf, DL.gCons, DL.gNil, DL.gTup, DL.gLst, gFl, gFd, gCa, gLenS, gPart, gNoP, gDisp, gPcons, gPnil, gtN, gtTup, gtCons, gtNil, gYes, gFor, gLc, giS, gCallP, gCallM, gScr, entry, aSls, aSl, DL.Fr.set, OM.d, wipeF, wipeS, keyD, List.length_cons, List.length_nil, List.cons_append, List.nil_append, List.append_nil, List.replicate_succ, List.replicate_zero, List.getElem?_cons_zero, List.getElem?_cons_succ, List.getElem?_nil, List.set_cons_zero, List.set_cons_succ, Nat.reduceAdd, Nat.reduceSub, if_true, if_false, ite_true, ite_false, reduceIte, Bool.false_eq_true, Bool.not_true, Bool.not_false, List.all_cons, List.all_nil, Bool.and_true, true_and, and_true, List.map_cons, List.map_nil, gIdx, ixT_ints, intsOf_map, Int.reduceToNat, Option.some.injEq, exists_eq_left', goAdd_int, goAdd_str, goAdd_tup, goAdd_lst, goAddW_int, goAddW_lst, goPlus_int, goI_int, guI_int, gcI1_int, goIx_lst, gcLen_lst, gcTupleS_lst, gcList_lst, goRevA_lst, goIx_tup, gcLen_tup, gcTupleS_tup, gcList_tup, goRevA_tup, gcTuple_lst, goIx_str, gcLen_str, gcInt_int, gcInt_bl, goMulT_tup, goMulL_lst, goIsB_bl, goIsN_non, isN_int, isN_bl, isN_str, isN_tup, isN_lst, isN_dic, isN_ref, isN_ty, isN_non, gTru_k, truK_non, truK_bl, truK_int, truK_lst, truK_tup, truK_str, gFlist_k, lstK_lst, lstK_tup, gsSl_k, slK_lst, slK_tup, slK_str, itsD_k, itsK_lst, itsK_tup, giZip_k, zipK_lst, zipK_tup, giR1_k, ran1K_nat, ran1K_int, giR2_k, ran2K_int, goLtA_int, goLtA_tup, ok_non, eqv_bl, goEq_int, goNe_int, goEq_bl, goNe_bl, gcMin_ints, gcMinT_ints, gcMax_ints, gcMaxT_ints, intsOf_mapf, blsOf_mapf, gcMin_f, gcMax_f, gcMin_2, gcMax_2, gcSum_ints, gcSum_f, gcBls_f, all_mapid, any_mapid, at_0, at_1, at_2, at_3, at_last, noOwn_nil, noOwn_1, noOwn_2, nof_n, nof_v, nof_b, nof_s, zipD_map, enumD_map, isi_non_int, isi_non_bool, isi_non_str, isi_non_tuple, isi_non_list, isi_non_dict, isi_bl_int, isi_bl_bool, isi_bl_str, isi_bl_tuple, isi_bl_list, isi_bl_dict, isi_int_int, isi_int_bool, isi_int_str, isi_int_tuple, isi_int_list, isi_int_dict, isi_str_int, isi_str_bool, isi_str_str, isi_str_tuple, isi_str_list, isi_str_dict, isi_tup_int, isi_tup_bool, isi_tup_str, isi_tup_tuple, isi_tup_list, isi_tup_dict, isi_lst_int, isi_lst_bool, isi_lst_str, isi_lst_tuple, isi_lst_list, isi_lst_dict, isi_dic_int, isi_dic_bool, isi_dic_str, isi_dic_tuple, isi_dic_list, isi_dic_dict, gcAll, gcAny, goMod, goFdiv, decide_eq_true_eq, Bool.not_eq_true', decide_eq_false_iff_not, ite_not, Bool.and_eq_true, not_false_eq_true, Bool.not_eq_true, List.map_append, Int.zero_add, List.any_cons, List.any_nil, Bool.true_and, Bool.or_false, Bool.xor_false, Bool.false_xor, Bool.true_xor, Bool.not_not, forall_const, Int.toNat_natCast, List.length_map, List.length_append, and_self, ne_eq, List.map_eq_nil_iff, not_true_eq_false, eq_self, goMulI, goSub, goPow, goLe, goGt, goGe, guNeg, gcAbs, goEq_str, goNe_str, goEq_tup, goNe_tup, goEq_lst, goNe_lst, goEq_non, goNe_non, gAndV_k, gOrV_k, gCh_k, blK_bl, ite_bf, reduceCtorEq, Int.reducePow, Int.reduceLT, Int.reduceLE, Int.reduceNeg, sz0, se0, sz1, se1, sz2, se2, sz3, se3, sz4, se4, sz5, se5, sz6, se6, sz7, se7, sz8, se8, sz9, se9, gFld, fldK_ref, gPutF, gPutFM, putFK_ref, gDrf, drfK_ref, gMApp, mlK_ref, gMPop, popK_int, gMIns, ins2K_2, insK_int, gMeth, mthK_ref, gMake, giR3, gFlR1, gFlR2, rg2K_int, gLenSet, lenSetK_lst, lenSetK_tup, gMinD, minDK_lst, giMem, giBA, gMIdx, goTab, gFsort, sortK_lst, sortK_tup])
local macro_rules | `(tactic| wp_walk using $ts,*) => `(tactic| simp only [$[$ts:term],*, gSeq, gSet, gRet, gRetN, gNext, gIfS, gDrop, gOwn, gApp, gExt, gForM, gLcM, gCnt, gTryV, gTryE, gxP, gxM, DL.Fr.mute, gIPut, gFrz, frz, gAsg, gPar, gPar3, gAug, gRaise, gRetM, gSetM, gMPut, gMGet, g1, g2, gC, gV, gVw, gB, gAnd, gOr, gNot, gNotV, gIf, DL.gCons, DL.gNil, DL.gTup, DL.gLst, gFl, gFd, gCa, gLenS, gPart, gNoP, gDisp, gPcons, gPnil, gtN, gtTup, gtCons, gtNil, gYes, gFor, gLc, giS, gCallP, gCallM, gScr, entry, aSls, aSl, DL.Fr.set, OM.d, wipeF, wipeS, keyD, List.length_cons, List.length_nil, List.cons_append, List.nil_append, List.append_nil, List.replicate_succ, List.replicate_zero, List.getElem?_cons_zero, List.getElem?_cons_succ, List.getElem?_nil, List.set_cons_zero, List.set_cons_succ, Nat.reduceAdd, Nat.reduceSub, if_true, if_false, ite_true, ite_false, reduceIte, Bool.false_eq_true, Bool.not_true, Bool.not_false, List.all_cons, List.all_nil, Bool.and_true, true_and, and_true, List.map_cons, List.map_nil, gIdx, ixT_ints, intsOf_map, Int.reduceToNat, Option.some.injEq, exists_eq_left', goAdd_int, goAdd_str, goAdd_tup, goAdd_lst, goAddW_int, goAddW_lst, goPlus_int, goI_int, guI_int, gcI1_int, goIx_lst, gcLen_lst, gcTupleS_lst, gcList_lst, goRevA_lst, goIx_tup, gcLen_tup, gcTupleS_tup, gcList_tup, goRevA_tup, gcTuple_lst, goIx_str, gcLen_str, gcInt_int, gcInt_bl, goMulT_tup, goMulL_lst, goIsB_bl, goIsN_non, isN_int, isN_bl, isN_str, isN_tup, isN_lst, isN_dic, isN_ref, isN_ty, isN_non, gTru_k, truK_non, truK_bl, truK_int, truK_lst, truK_tup, truK_str, gFlist_k, lstK_lst, lstK_tup, gsSl_k, slK_lst, slK_tup, slK_str, itsD_k, itsK_lst, itsK_tup, giZip_k, zipK_lst, zipK_tup, giR1_k, ran1K_nat, ran1K_int, giR2_k, ran2K_int, goLtA_int, goLtA_tup, ok_non, eqv_bl, goEq_int, goNe_int, goEq_bl, goNe_bl, gcMin_ints, gcMinT_ints, gcMax_ints, gcMaxT_ints, intsOf_mapf, blsOf_mapf, gcMin_f, gcMax_f, gcMin_2, gcMax_2, gcSum_ints, gcSum_f, gcBls_f, all_mapid, any_mapid, at_0, at_1, at_2, at_3, at_last, noOwn_nil, noOwn_1, noOwn_2, nof_n, nof_v, nof_b, nof_s, zipD_map, enumD_map, isi_non_int, isi_non_bool, isi_non_str, isi_non_tuple, isi_non_list, isi_non_dict, isi_bl_int, isi_bl_bool, isi_bl_str, isi_bl_tuple, isi_bl_list, isi_bl_dict, isi_int_int, isi_int_bool, isi_int_str, isi_int_tuple, isi_int_list, isi_int_dict, isi_str_int, isi_str_bool, isi_str_str, isi_str_tuple, isi_str_list, isi_str_dict, isi_tup_int, isi_tup_bool, isi_tup_str, isi_tup_tuple, isi_tup_list, isi_tup_dict, isi_lst_int, isi_lst_bool, isi_lst_str, isi_lst_tuple, isi_lst_list, isi_lst_dict, isi_dic_int, isi_dic_bool, isi_dic_str, isi_dic_tuple, isi_dic_list, isi_dic_dict, gcAll, gcAny, goMod, goFdiv, decide_eq_true_eq, Bool.not_eq_true', decide_eq_false_iff_not, ite_not, Bool.and_eq_true, not_false_eq_true, Bool.not_eq_true, List.map_append, Int.zero_add, List.any_cons, List.any_nil, Bool.true_and, Bool.or_false, Bool.xor_false, Bool.false_xor, Bool.true_xor, Bool.not_not, forall_const, Int.toNat_natCast, List.length_map, List.length_append, and_self, ne_eq, List.map_eq_nil_iff, not_true_eq_false, eq_self, goMulI, goSub, goPow, goLe, goGt, goGe, guNeg, gcAbs, goEq_str, goNe_str, goEq_tup, goNe_tup, goEq_lst, goNe_lst, goEq_non, goNe_non, gAndV_k, gOrV_k, gCh_k, blK_bl, ite_bf, reduceCtorEq, Int.reducePow, Int.reduceLT, Int.reduceLE, Int.reduceNeg, sz0, se0, sz1, se1, sz2, se2, sz3, se3, sz4, se4, sz5, se5, sz6, se6, sz7, se7, sz8, se8, sz9, se9, gFld, fldK_ref, gPutF, gPutFM, putFK_ref, gDrf, drfK_ref, gMApp, mlK_ref, gMPop, popK_int, gMIns, ins2K_2, insK_int, gMeth, mthK_ref, gMake, giR3, gFlR1, gFlR2, rg2K_int, gLenSet, lenSetK_lst, lenSetK_tup, gMinD, minDK_lst, giMem, giBA, gMIdx, goTab, gFsort, sortK_lst, sortK_tup])
variable {K : PySem.W.Frag}
end LW
namespace LW
open PySem PySem.Spec PySem.W PyProof.Rows L2 DL
local macro_rules | `(tactic| wp_walk) => `(tactic| simp only [gSeq, gSet, gRet, gRetN, gNext, gIfS, gDrop, gOwn, gApp, gExt, gForM, gLcM, gCnt, gTryV, gTryE, gxP, gxM, DL.Fr.mute, gIPut, gFrz, frz, gAsg, gPar, gPar3, gAug, gRaise, gRetM, gSetM, gMPut, gMGet, g1, g2, gC, gV, gVw, gB, gAnd, gOr, gNot, gNotV, gIf, DL.gCons, DL.gNil, DL.gTup, DL.gLst, gFl, gFd, gCa, gLenS, gPart, gNoP, gDisp, gPcons, gPnil, gtN, gtTup, gtCons, gtNil, gYes, gFor, gLc, giS, gCallP, gCallM, gScr, entry, aSls, aSl, DL.Fr.set, OM.d, wipeF, wipeS, keyD, List.length_cons, List.length_nil, List.cons_append, List.nil_append, List.append_nil, List.replicate_succ, List.replicate_zero, List.getElem?_cons_zero, List.getElem?_cons_succ, List.getElem?_nil, List.set_cons_zero, List.set_cons_succ, Nat.reduceAdd, Nat.reduceSub, if_true, if_false, ite_true, ite_false, reduceIte, Bool.false_eq_true, Bool.not_true, Bool.not_false, List.all_cons, List.all_nil, Bool.and_true, true_and, and_true, List.map_cons, List.map_nil, gIdx, ixT_ints, intsOf_map, Int.reduceToNat, Option.some.injEq, exists_eq_left', goAdd_int, goAdd_str, goAdd_tup, goAdd_lst, goAddW_int, goAddW_lst, goPlus_int, goI_int, guI_int, gcI1_int, goIx_lst, gcLen_lst, gcTupleS_lst, gcList_lst, goRevA_lst, goIx_tup, gcLen_tup, gcTupleS_tup, gcList_tup, goRevA_tup, gcTuple_lst, goIx_str, gcLen_str, gcInt_int, gcInt_bl, goMulT_tup, goMulL_lst, goIsB_bl, goIsN_non, isN_int, isN_bl, isN_str, isN_tup, isN_lst, isN_dic, isN_ref, isN_ty, isN_non, gTru_k, truK_non, truK_bl, truK_int, truK_lst, truK_tup, truK_str, gFlist_k, lstK_lst, lstK_tup, gsSl_k, slK_lst, slK_tup, slK_str, itsD_k, itsK_lst, itsK_tup, giZip_k, zipK_lst, zipK_tup, giR1_k, ran1K_nat, ran1K_int, giR2_k, ran2K_int, goLtA_int, goLtA_tup, ok_non, eqv_bl, goEq_int, goNe_int, goEq_bl, goNe_bl, gcMin_ints, gcMinT_ints, gcMax_ints, gcMaxT_ints, intsOf_mapf, blsOf_mapf, gcMin_f, gcMax_f, gcMin_2, gcMax_2, gcSum_ints, gcSum_f, gcBls_f, all_mapid, any_mapid, at_0, at_1, at_2, at_3, at_last, noOwn_nil, noOwn_1, noOwn_2, nof_n, nof_v, nof_b, nof_s, zipD_map, enumD_map, isi_non_int, isi_non_bool, isi_non_str, isi_non_tuple, isi_non_list, isi_non_dict, isi_bl_int, isi_bl_bool, isi_bl_str, isi_bl_tuple, isi_bl_list, isi_bl_dict, isi_int_int, isi_int_bool, isi_int_str, isi_int_tuple, isi_int_list, isi_int_dict, isi_str_int, isi_str_bool, isi_str_str, isi_str_tuple, isi_str_list, isi_str_dict, isi_tup_int, isi_tup_bool, isi_tup_str, isi_tup_tuple, isi_tup_list, isi_tup_dict, isi_lst_int, isi_lst_bool, isi_lst_str, isi_lst_tuple, isi_lst_list, isi_lst_dict, isi_dic_int, isi_dic_bool, isi_dic_str, isi_dic_tuple, isi_dic_list, isi_dic_dict, gcAll, gcAny, goMod, goFdiv, decide_eq_true_eq, Bool.not_eq_true', decide_eq_false_iff_not, ite_not, Bool.and_eq_true, not_false_eq_true, Bool.not_eq_true, List.map_append, Int.zero_add, List.any_cons, List.any_nil, Bool.true_and, Bool.or_false, Bool.xor_false, Bool.false_xor, Bool.true_xor, Bool.not_not, forall_const, Int.toNat_natCast, List.length_map, List.length_append, and_self, ne_eq, List.map_eq_nil_iff, not_true_eq_false, eq_self, goMulI, goSub, goPow, goLe, goGt, goGe, guNeg, gcAbs, goEq_str, goNe_str, goEq_tup, goNe_tup, goEq_lst, goNe_lst, goEq_non, goNe_non, gAndV_k, gOrV_k, gCh_k, blK_bl, ite_bf, reduceCtorEq, Int.reducePow, Int.reduceLT, Int.reduceLE, Int.reduceNeg, sz0, se0, sz1, se1, sz2, se2, sz3, se3, sz4, se4, sz5, se5, sz6, se6, sz7, se7, sz8, se8, sz9, se9, gFld, fldK_ref, gPutF, gPutFM, putFK_ref, gDrf, drfK_ref, gMApp, mlK_ref, gMPop, popK_int, gMIns, ins2K_2, insK_int, gMeth, mthK_ref, gMake, giR3, gFlR1, gFlR2, rg2K_int, gLenSet, lenSetK_lst, lenSetK_tup, gMinD, minDK_lst, giMem, giBA, gMIdx, goTab, gFsort, sortK_lst, sortK_tup])
local macro_rules | `(tactic| wp_walk using $ts,*) => `(tactic| simp only [$[$ts:term],*, gSeq, gSet, gRet, gRetN, gNext, gIfS, gDrop, gOwn, gApp, gExt, gForM, gLcM, gCnt, gTryV, gTryE, gxP, gxM, DL.Fr.mute, gIPut, gFrz, frz, gAsg, gPar, gPar3, gAug, gRaise, gRetM, gSetM, gMPut, gMGet, g1, g2, gC, gV, gVw, gB, gAnd, gOr, gNot, gNotV, gIf, DL.gCons, DL.gNil, DL.gTup, DL.gLst, gFl, gFd, gCa, gLenS, gPart, gNoP, gDisp, gPcons, gPnil, gtN, gtTup, gtCons, gtNil, gYes, gFor, gLc, giS, gCallP, gCallM, gScr, entry, aSls, aSl, DL.Fr.set, OM.d, wipeF, wipeS, keyD, List.length_cons, List.length_nil, List.cons_append, List.nil_append, List.append_nil, List.replicate_succ, List.replicate_zero, List.getElem?_cons_zero, List.getElem?_cons_succ, List.getElem?_nil, List.set_cons_zero, List.set_cons_succ, Nat.reduceAdd, Nat.reduceSub, if_true, if_false, ite_true, ite_false, reduceIte, Bool.false_eq_true, Bool.not_true, Bool.not_false, List.all_cons, List.all_nil, Bool.and_true, true_and, and_true, List.map_cons, List.map_nil, gIdx, ixT_ints, intsOf_map, Int.reduceToNat, Option.some.injEq, exists_eq_left', goAdd_int, goAdd_str, goAdd_tup, goAdd_lst, goAddW_int, goAddW_lst, goPlus_int, goI_int, guI_int, gcI1_int, goIx_lst, gcLen_lst, gcTupleS_lst, gcList_lst, goRevA_lst, goIx_tup, gcLen_tup, gcTupleS_tup, gcList_tup, goRevA_tup, gcTuple_lst, goIx_str, gcLen_str, gcInt_int, gcInt_bl, goMulT_tup, goMulL_lst, goIsB_bl, goIsN_non, isN_int, isN_bl, isN_str, isN_tup, isN_lst, isN_dic, isN_ref, isN_ty, isN_non, gTru_k, truK_non, truK_bl, truK_int, truK_lst, truK_tup, truK_str, gFlist_k, lstK_lst, lstK_tup, gsSl_k, slK_lst, slK_tup, slK_str, itsD_k, itsK_lst, itsK_tup, giZip_k, zipK_lst, zipK_tup, giR1_k, ran1K_nat, ran1K_int, giR2_k, ran2K_int, goLtA_int, goLtA_tup, ok_non, eqv_bl, goEq_int, goNe_int, goEq_bl, goNe_bl, gcMin_ints, gcMinT_ints, gcMax_ints, gcMaxT_ints, intsOf_mapf, blsOf_mapf, gcMin_f, gcMax_f, gcMin_2, gcMax_2, gcSum_ints, gcSum_f, gcBls_f, all_mapid, any_mapid, at_0, at_1, at_2, at_3, at_last, noOwn_nil, noOwn_1, noOwn_2, nof_n, nof_v, nof_b, nof_s, zipD_map, enumD_map, isi_non_int, isi_non_bool, isi_non_str, isi_non_tuple, isi_non_list, isi_non_dict, isi_bl_int, isi_bl_bool, isi_bl_str, isi_bl_tuple, isi_bl_list, isi_bl_dict, isi_int_int, isi_int_bool, isi_int_str, isi_int_tuple, isi_int_list, isi_int_dict, isi_str_int, isi_str_bool, isi_str_str, isi_str_tuple, isi_str_list, isi_str_dict, isi_tup_int, isi_tup_bool, isi_tup_str, isi_tup_tuple, isi_tup_list, isi_tup_dict, isi_lst_int, isi_lst_bool, isi_lst_str, isi_lst_tuple, isi_lst_list, isi_lst_dict, isi_dic_int, isi_dic_bool, isi_dic_str, isi_dic_tuple, isi_dic_list, isi_dic_dict, gcAll, gcAny, goMod, goFdiv, decide_eq_true_eq, Bool.not_eq_true', decide_eq_false_iff_not, ite_not, Bool.and_eq_true, not_false_eq_true, Bool.not_eq_true, List.map_append, Int.zero_add, List.any_cons, List.any_nil, Bool.true_and, Bool.or_false, Bool.xor_false, Bool.false_xor, Bool.true_xor, Bool.not_not, forall_const, Int.toNat_natCast, List.length_map, List.length_append, and_self, ne_eq, List.map_eq_nil_iff, not_true_eq_false, eq_self, goMulI, goSub, goPow, goLe, goGt, goGe, guNeg, gcAbs, goEq_str, goNe_str, goEq_tup, goNe_tup, goEq_lst, goNe_lst, goEq_non, goNe_non, gAndV_k, gOrV_k, gCh_k, blK_bl, ite_bf, reduceCtorEq, Int.reducePow, Int.reduceLT, Int.reduceLE, Int.reduceNeg, sz0, se0, sz1, se1, sz2, se2, sz3, se3, sz4, se4, sz5, se5, sz6, se6, sz7, se7, sz8, se8, sz9, se9, gFld, fldK_ref, gPutF, gPutFM, putFK_ref, gDrf, drfK_ref, gMApp, mlK_ref, gMPop, popK_int, gMIns, ins2K_2, insK_int, gMeth, mthK_ref, gMake, giR3, gFlR1, gFlR2, rg2K_int, gLenSet, lenSetK_lst, lenSetK_tup, gMinD, minDK_lst, giMem, giBA, gMIdx, goTab, gFsort, sortK_lst, sortK_tup])
/-- a loop over range(n), by how many turns are done -/
theorem loop_rng {gt : GG} {gb : GS} {D' : DEnds} (I : Nat → DL.Fr → Mem → Prop) (n : Nat) (h0 : ∀ r M, I n r M → D'.nx r M)
    (h1 : ∀ j < n, ∀ r M, I j r M → ∀ N : DL.Fr → Mem → Prop, (∀ r M, I (j + 1) r M → N r M) → gt (D.int (0 + (j : Nat))) r M fun r' M' => gb { D' with nx := N, ct := N, bk := D'.nx } r' M') :
    ∀ r M, I 0 r M → loopD gt gb ((List.range n).map fun i : Nat => D.int (0 + i)) D' r M := by
  have key := loop_mp (gt := gt) (gb := gb) (D' := D') (enc := fun (i : Nat) => D.int (0 + i)) (fun is r M => ∃ j ≤ n, is = (List.range n).drop j ∧ I j r M) ?_ ?_ (List.range n)
  · exact fun r M h => key r M ⟨0, Nat.zero_le _, rfl, h⟩
  · rintro r M ⟨j, hj, e, h⟩
    have hl := congrArg List.length e
    rw [List.length_drop, List.length_range, List.length_nil] at hl
    have : j = n := by omega
    subst this
    exact h0 r M h
  · rintro i is r M ⟨j, hj, e, h⟩ N hN
    have hl := congrArg List.length e
    rw [List.length_drop, List.length_range, List.length_cons] at hl
    have hjn : j < n := by omega
    rw [List.drop_eq_getElem_cons (by rw [List.length_range]; exact hjn)] at e
    obtain ⟨e1, e2⟩ := List.cons.inj e
    rw [List.getElem_range] at e1
    subst e1
    exact h1 i hjn r M h N fun r M h => hN r M ⟨i + 1, hjn, e2, h⟩
end LW
namespace LW
open PySem PySem.Spec PySem.W PyProof.Rows L2 DL
local macro_rules | `(tactic| wp_walk) => `(tactic| simp only [gSeq, gSet, gRet, gRetN, gNext, gIfS, gDrop, gOwn, gApp, gExt, gForM, gLcM, gCnt, gTryV, gTryE, gxP, gxM, DL.Fr.mute, gIPut, gFrz, frz, gAsg, gPar, gPar3, gAug, gRaise, gRetM, gSetM, gMPut, gMGet, g1, g2, gC, gV, gVw, gB, gAnd, gOr, gNot, gNotV, gIf, DL.gCons, DL.gNil, DL.gTup, DL.gLst, gFl, gFd, gCa, gLenS, gPart, gNoP, gDisp, gPcons, gPnil, gtN, gtTup, gtCons, gtNil, gYes, gFor, gLc, giS, gCallP, gCallM, gScr, entry, aSls, aSl, DL.Fr.set, OM.d, wipeF, wipeS, keyD, List.length_cons, List.length_nil, List.cons_append, List.nil_append, List.append_nil, List.replicate_succ, List.replicate_zero, List.getElem?_cons_zero, List.getElem?_cons_succ, List.getElem?_nil, List.set_cons_zero, List.set_cons_succ, Nat.reduceAdd, Nat.reduceSub, if_true, if_false, ite_true, ite_false, reduceIte, Bool.false_eq_true, Bool.not_true, Bool.not_false, List.all_cons, List.all_nil, Bool.and_true, true_and, and_true, List.map_cons, List.map_nil, gIdx, ixT_ints, intsOf_map, Int.reduceToNat, Option.some.injEq, exists_eq_left', goAdd_int, goAdd_str, goAdd_tup, goAdd_lst, goAddW_int, goAddW_lst, goPlus_int, goI_int, guI_int, gcI1_int, goIx_lst, gcLen_lst, gcTupleS_lst, gcList_lst, goRevA_lst, goIx_tup, gcLen_tup, gcTupleS_tup, gcList_tup, goRevA_tup, gcTuple_lst, goIx_str, gcLen_str, gcInt_int, gcInt_bl, goMulT_tup, goMulL_lst, goIsB_bl, goIsN_non, isN_int, isN_bl, isN_str, isN_tup, isN_lst, isN_dic, isN_ref, isN_ty, isN_non, gTru_k, truK_non, truK_bl, truK_int, truK_lst, truK_tup, truK_str, gFlist_k, lstK_lst, lstK_tup, gsSl_k, slK_lst, slK_tup, slK_str, itsD_k, itsK_lst, itsK_tup, giZip_k, zipK_lst, zipK_tup, giR1_k, ran1K_nat, ran1K_int, giR2_k, ran2K_int, goLtA_int, goLtA_tup, ok_non, eqv_bl, goEq_int, goNe_int, goEq_bl, goNe_bl, gcMin_ints, gcMinT_ints, gcMax_ints, gcMaxT_ints, intsOf_mapf, blsOf_mapf, gcMin_f, gcMax_f, gcMin_2, gcMax_2, gcSum_ints, gcSum_f, gcBls_f, all_mapid, any_mapid, at_0, at_1, at_2, at_3, at_last, noOwn_nil, noOwn_1, noOwn_2, nof_n, nof_v, nof_b, nof_s, zipD_map, enumD_map, isi_non_int, isi_non_bool, isi_non_str, isi_non_tuple, isi_non_list, isi_non_dict, isi_bl_int, isi_bl_bool, isi_bl_str, isi_bl_tuple, isi_bl_list, isi_bl_dict, isi_int_int, isi_int_bool, isi_int_str, isi_int_tuple, isi_int_list, isi_int_dict, isi_str_int, isi_str_bool, isi_str_str, isi_str_tuple, isi_str_list, isi_str_dict, isi_tup_int, isi_tup_bool, isi_tup_str, isi_tup_tuple, isi_tup_list, isi_tup_dict, isi_lst_int, isi_lst_bool, isi_lst_str, isi_lst_tuple, isi_lst_list, isi_lst_dict, isi_dic_int, isi_dic_bool, isi_dic_str, isi_dic_tuple, isi_dic_list, isi_dic_dict, gcAll, gcAny, goMod, goFdiv, decide_eq_true_eq, Bool.not_eq_true', decide_eq_false_iff_not, ite_not, Bool.and_eq_true, not_false_eq_true, Bool.not_eq_true, List.map_append, Int.zero_add, List.any_cons, List.any_nil, Bool.true_and, Bool.or_false, Bool.xor_false, Bool.false_xor, Bool.true_xor, Bool.not_not, forall_const, Int.toNat_natCast, List.length_map, List.length_append, and_self, ne_eq, List.map_eq_nil_iff, not_true_eq_false, eq_self, goMulI, goSub, goPow, goLe, goGt, goGe, guNeg, gcAbs, goEq_str, goNe_str, goEq_tup, goNe_tup, goEq_lst, goNe_lst, goEq_non, goNe_non, gAndV_k, gOrV_k, gCh_k, blK_bl, ite_bf, reduceCtorEq, Int.reducePow, Int.reduceLT, Int.reduceLE, Int.reduceNeg, sz0, se0, sz1, se1, sz2, se2, sz3, se3, sz4, se4, sz5, se5, sz6, se6, sz7, se7, sz8, se8, sz9, se9, gFld, fldK_ref, gPutF, gPutFM, putFK_ref, gDrf, drfK_ref, gMApp, mlK_ref, gMPop, popK_int, gMIns, ins2K_2, insK_int, gMeth, mthK_ref, gMake, giR3, gFlR1, gFlR2, rg2K_int, gLenSet, lenSetK_lst, lenSetK_tup, gMinD, minDK_lst, giMem, giBA, gMIdx, goTab, gFsort, sortK_lst, sortK_tup])
local macro_rules | `(tactic| wp_walk using $ts,*) => `(tactic| simp only [$[$ts:term],*, gSeq, gSet, gRet, gRetN, gNext, gIfS, gDrop, gOwn, gApp, gExt, gForM, gLcM, gCnt, gTryV, gTryE, gxP, gxM, DL.Fr.mute, gIPut, gFrz, frz, gAsg, gPar, gPar3, gAug, gRaise, gRetM, gSetM, gMPut, gMGet, g1, g2, gC, gV, gVw, gB, gAnd, gOr, gNot, gNotV, gIf, DL.gCons, DL.gNil, DL.gTup, DL.gLst, gFl, gFd, gCa, gLenS, gPart, gNoP, gDisp, gPcons, gPnil, gtN, gtTup, gtCons, gtNil, gYes, gFor, gLc, giS, gCallP, gCallM, gScr, entry, aSls, aSl, DL.Fr.set, OM.d, wipeF, wipeS, keyD, List.length_cons, List.length_nil, List.cons_append, List.nil_append, List.append_nil, List.replicate_succ, List.replicate_zero, List.getElem?_cons_zero, List.getElem?_cons_succ, List.getElem?_nil, List.set_cons_zero, List.set_cons_succ, Nat.reduceAdd, Nat.reduceSub, if_true, if_false, ite_true, ite_false, reduceIte, Bool.false_eq_true, Bool.not_true, Bool.not_false, List.all_cons, List.all_nil, Bool.and_true, true_and, and_true, List.map_cons, List.map_nil, gIdx, ixT_ints, intsOf_map, Int.reduceToNat, Option.some.injEq, exists_eq_left', goAdd_int, goAdd_str, goAdd_tup, goAdd_lst, goAddW_int, goAddW_lst, goPlus_int, goI_int, guI_int, gcI1_int, goIx_lst, gcLen_lst, gcTupleS_lst, gcList_lst, goRevA_lst, goIx_tup, gcLen_tup, gcTupleS_tup, gcList_tup, goRevA_tup, gcTuple_lst, goIx_str, gcLen_str, gcInt_int, gcInt_bl, goMulT_tup, goMulL_lst, goIsB_bl, goIsN_non, isN_int, isN_bl, isN_str, isN_tup, isN_lst, isN_dic, isN_ref, isN_ty, isN_non, gTru_k, truK_non, truK_bl, truK_int, truK_lst, truK_tup, truK_str, gFlist_k, lstK_lst, lstK_tup, gsSl_k, slK_lst, slK_tup, slK_str, itsD_k, itsK_lst, itsK_tup, giZip_k, zipK_lst, zipK_tup, giR1_k, ran1K_nat, ran1K_int, giR2_k, ran2K_int, goLtA_int, goLtA_tup, ok_non, eqv_bl, goEq_int, goNe_int, goEq_bl, goNe_bl, gcMin_ints, gcMinT_ints, gcMax_ints, gcMaxT_ints, intsOf_mapf, blsOf_mapf, gcMin_f, gcMax_f, gcMin_2, gcMax_2, gcSum_ints, gcSum_f, gcBls_f, all_mapid, any_mapid, at_0, at_1, at_2, at_3, at_last, noOwn_nil, noOwn_1, noOwn_2, nof_n, nof_v, nof_b, nof_s, zipD_map, enumD_map, isi_non_int, isi_non_bool, isi_non_str, isi_non_tuple, isi_non_list, isi_non_dict, isi_bl_int, isi_bl_bool, isi_bl_str, isi_bl_tuple, isi_bl_list, isi_bl_dict, isi_int_int, isi_int_bool, isi_int_str, isi_int_tuple, isi_int_list, isi_int_dict, isi_str_int, isi_str_bool, isi_str_str, isi_str_tuple, isi_str_list, isi_str_dict, isi_tup_int, isi_tup_bool, isi_tup_str, isi_tup_tuple, isi_tup_list, isi_tup_dict, isi_lst_int, isi_lst_bool, isi_lst_str, isi_lst_tuple, isi_lst_list, isi_lst_dict, isi_dic_int, isi_dic_bool, isi_dic_str, isi_dic_tuple, isi_dic_list, isi_dic_dict, gcAll, gcAny, goMod, goFdiv, decide_eq_true_eq, Bool.not_eq_true', decide_eq_false_iff_not, ite_not, Bool.and_eq_true, not_false_eq_true, Bool.not_eq_true, List.map_append, Int.zero_add, List.any_cons, List.any_nil, Bool.true_and, Bool.or_false, Bool.xor_false, Bool.false_xor, Bool.true_xor, Bool.not_not, forall_const, Int.toNat_natCast, List.length_map, List.length_append, and_self, ne_eq, List.map_eq_nil_iff, not_true_eq_false, eq_self, goMulI, goSub, goPow, goLe, goGt, goGe, guNeg, gcAbs, goEq_str, goNe_str, goEq_tup, goNe_tup, goEq_lst, goNe_lst, goEq_non, goNe_non, gAndV_k, gOrV_k, gCh_k, blK_bl, ite_bf, reduceCtorEq, Int.reducePow, Int.reduceLT, Int.reduceLE, Int.reduceNeg, sz0, se0, sz1, se1, sz2, se2, sz3, se3, sz4, se4, sz5, se5, sz6, se6, sz7, se7, sz8, se8, sz9, se9, gFld, fldK_ref, gPutF, gPutFM, putFK_ref, gDrf, drfK_ref, gMApp, mlK_ref, gMPop, popK_int, gMIns, ins2K_2, insK_int, gMeth, mthK_ref, gMake, giR3, gFlR1, gFlR2, rg2K_int, gLenSet, lenSetK_lst, lenSetK_tup, gMinD, minDK_lst, giMem, giBA, gMIdx, goTab, gFsort, sortK_lst, sortK_tup])
variable {K : PySem.W.Frag}
theorem at_2 {k : Int} (h0 : 0 ≤ k) (h : k < 2) : atI [D.str "at", .str "out"] k = some (.str (if k = 0 then "at" else "out")) := by
  have : k = 0 ∨ k = 1 := by omega
  rcases this with rfl | rfl <;> rfl
def fs_l_row_2 (K : PySem.W.Frag) : FS := DrawF (fun r => ∃ b : Int, r = [.int b] ∧ 0 ≤ b ∧ b ≤ 40) fun r d => ∃ (b : Int) (ns : List Int), r = [.int b] ∧ d = .lst (ns.map .int) ∧ RowN ns ∧ ((ns.length : Nat) : Int) ≤ b
theorem mo_l_row_2 {K : PySem.W.Frag} : MonoF (fs_l_row_2 K) := drawF_mono
/-- _law_row -/
def g_l_row_2 (K : PySem.W.Frag) : GS := gSeq (gSet 2 (gCallM (fs_l_take K) (gCons (gV 0) (gCons (gC (.int 5)) gNil)))) (gRet (gFd (gLc (giR1 (gCons (gCallM (fs_l_size K) (gCons (gV 0) (gCons (gV 1) gNil))) gNil)) (gtN 3) (gYes) (gCallM (fs_l_thing K) (gCons (gV 0) (gCons (gV 2) gNil))) [3])))
theorem h_l_row_2 {K : PySem.W.Frag} : ∀ ds M Q X, (fs_l_row_2 K) ds M Q X → ds.length = ([.v, .v] : List AK).length → g_l_row_2 K { nx := fun _ M' => Q .non M', rt := Q } (entry 4 [.v, .v] ds X) M := by
  rintro ds M Q X ⟨a, r, rfl, ms, ⟨b, rfl, b0, b1⟩, q⟩ -
  wp_walk using g_l_row_2
  refine take_of (K := K) ms (by omega) (by omega) fun kd kd0 _ => ?_
  wp_walk
  refine size_dr (K := K) ms (by omega) (by omega) fun n n0 n1 => ?_
  obtain ⟨n, rfl⟩ := Int.eq_ofNat_of_zero_le n0
  wp_walk
  refine ⟨by omega, ?_⟩
  refine lc_dr (xs := List.range n) (enc := fun (i : Nat) => D.int (0 + i)) (P := fun _ d => ∃ v, d = .int v ∧ thingN v) (fun k hk Q' q' => ?_) (size_of (by simp; omega)) fun zs hz hp => ?_
  · wp_walk
    exact thing_dr (K := K) ms kd0 fun v v0 v1 => q' _ ⟨v, rfl, v0, v1⟩
  obtain ⟨ns, rfl, hln, hrn⟩ : ∃ ns : List Int, zs = ns.map .int ∧ ns.length = zs.length ∧ ∀ x ∈ ns, thingN x := by
    refine ints_of fun d hd => ?_
    obtain ⟨i, hi, rfl⟩ := List.mem_iff_getElem.mp hd
    have hi2 : i < n := by rw [hz, List.length_range] at hi; exact hi
    exact hp i i _ (List.getElem?_range hi2) (List.getElem?_eq_getElem hi)
  rw [List.length_map, List.length_range] at hz
  exact q _ ⟨b, ns, rfl, rfl, ⟨by omega, hrn⟩, by omega⟩
theorem row_drB {M : Mem} {a : Addr} {b : Int} {Q : D → Mem → Prop} {X : Addr → Mem → Prop} (ms : M a = some .st) (b0 : 0 ≤ b) (b1 : b ≤ 40) (h : ∀ ns : List Int, RowN ns → ((ns.length : Nat) : Int) ≤ b → Q (.lst (ns.map .int)) M) : fs_l_row_2 K [.ref a, .int b] M Q X :=
  ⟨a, _, rfl, ms, ⟨b, rfl, b0, b1⟩, fun d ⟨b', ns, e, e2, hs, hl⟩ => by
    cases e
    subst e2
    exact h ns hs hl⟩
theorem row_dr {M : Mem} {a : Addr} {b : Int} {Q : D → Mem → Prop} {X : Addr → Mem → Prop} (ms : M a = some .st) (b0 : 0 ≤ b) (b1 : b ≤ 40) (h : ∀ ns : List Int, RowN ns → Q (.lst (ns.map .int)) M) : fs_l_row_2 K [.ref a, .int b] M Q X :=
  row_drB ms b0 b1 fun ns hs _ => h ns hs
end LW
namespace LW
open PySem PySem.Spec PySem.W PyProof.Rows L2 DL
local macro_rules | `(tactic| wp_walk) => `(tactic| simp only [gSeq, gSet, gRet, gRetN, gNext, gIfS, gDrop, gOwn, gApp, gExt, gForM, gLcM, gCnt, gTryV, gTryE, gxP, gxM, DL.Fr.mute, gIPut, gFrz, frz, gAsg, gPar, gPar3, gAug, gRaise, gRetM, gSetM, gMPut, gMGet, g1, g2, gC, gV, gVw, gB, gAnd, gOr, gNot, gNotV, gIf, DL.gCons, DL.gNil, DL.gTup, DL.gLst, gFl, gFd, gCa, gLenS, gPart, gNoP, gDisp, gPcons, gPnil, gtN, gtTup, gtCons, gtNil, gYes, gFor, gLc, giS, gCallP, gCallM, gScr, entry, aSls, aSl, DL.Fr.set, OM.d, wipeF, wipeS, keyD, List.length_cons, List.length_nil, List.cons_append, List.nil_append, List.append_nil, List.replicate_succ, List.replicate_zero, List.getElem?_cons_zero, List.getElem?_cons_succ, List.getElem?_nil, List.set_cons_zero, List.set_cons_succ, Nat.reduceAdd, Nat.reduceSub, if_true, if_false, ite_true, ite_false, reduceIte, Bool.false_eq_true, Bool.not_true, Bool.not_false, List.all_cons, List.all_nil, Bool.and_true, true_and, and_true, List.map_cons, List.map_nil, gIdx, ixT_ints, intsOf_map, Int.reduceToNat, Option.some.injEq, exists_eq_left', goAdd_int, goAdd_str, goAdd_tup, goAdd_lst, goAddW_int, goAddW_lst, goPlus_int, goI_int, guI_int, gcI1_int, goIx_lst, gcLen_lst, gcTupleS_lst, gcList_lst, goRevA_lst, goIx_tup, gcLen_tup, gcTupleS_tup, gcList_tup, goRevA_tup, gcTuple_lst, goIx_str, gcLen_str, gcInt_int, gcInt_bl, goMulT_tup, goMulL_lst, goIsB_bl, goIsN_non, isN_int, isN_bl, isN_str, isN_tup, isN_lst, isN_dic, isN_ref, isN_ty, isN_non, gTru_k, truK_non, truK_bl, truK_int, truK_lst, truK_tup, truK_str, gFlist_k, lstK_lst, lstK_tup, gsSl_k, slK_lst, slK_tup, slK_str, itsD_k, itsK_lst, itsK_tup, giZip_k, zipK_lst, zipK_tup, giR1_k, ran1K_nat, ran1K_int, giR2_k, ran2K_int, goLtA_int, goLtA_tup, ok_non, eqv_bl, goEq_int, goNe_int, goEq_bl, goNe_bl, gcMin_ints, gcMinT_ints, gcMax_ints, gcMaxT_ints, intsOf_mapf, blsOf_mapf, gcMin_f, gcMax_f, gcMin_2, gcMax_2, gcSum_ints, gcSum_f, gcBls_f, all_mapid, any_mapid, at_0, at_1, at_2, at_3, at_last, noOwn_nil, noOwn_1, noOwn_2, nof_n, nof_v, nof_b, nof_s, zipD_map, enumD_map, isi_non_int, isi_non_bool, isi_non_str, isi_non_tuple, isi_non_list, isi_non_dict, isi_bl_int, isi_bl_bool, isi_bl_str, isi_bl_tuple, isi_bl_list, isi_bl_dict, isi_int_int, isi_int_bool, isi_int_str, isi_int_tuple, isi_int_list, isi_int_dict, isi_str_int, isi_str_bool, isi_str_str, isi_str_tuple, isi_str_list, isi_str_dict, isi_tup_int, isi_tup_bool, isi_tup_str, isi_tup_tuple, isi_tup_list, isi_tup_dict, isi_lst_int, isi_lst_bool, isi_lst_str, isi_lst_tuple, isi_lst_list, isi_lst_dict, isi_dic_int, isi_dic_bool, isi_dic_str, isi_dic_tuple, isi_dic_list, isi_dic_dict, gcAll, gcAny, goMod, goFdiv, decide_eq_true_eq, Bool.not_eq_true', decide_eq_false_iff_not, ite_not, Bool.and_eq_true, not_false_eq_true, Bool.not_eq_true, List.map_append, Int.zero_add, List.any_cons, List.any_nil, Bool.true_and, Bool.or_false, Bool.xor_false, Bool.false_xor, Bool.true_xor, Bool.not_not, forall_const, Int.toNat_natCast, List.length_map, List.length_append, and_self, ne_eq, List.map_eq_nil_iff, not_true_eq_false, eq_self, goMulI, goSub, goPow, goLe, goGt, goGe, guNeg, gcAbs, goEq_str, goNe_str, goEq_tup, goNe_tup, goEq_lst, goNe_lst, goEq_non, goNe_non, gAndV_k, gOrV_k, gCh_k, blK_bl, ite_bf, reduceCtorEq, Int.reducePow, Int.reduceLT, Int.reduceLE, Int.reduceNeg, sz0, se0, sz1, se1, sz2, se2, sz3, se3, sz4, se4, sz5, se5, sz6, se6, sz7, se7, sz8, se8, sz9, se9, gFld, fldK_ref, gPutF, gPutFM, putFK_ref, gDrf, drfK_ref, gMApp, mlK_ref, gMPop, popK_int, gMIns, ins2K_2, insK_int, gMeth, mthK_ref, gMake, giR3, gFlR1, gFlR2, rg2K_int, gLenSet, lenSetK_lst, lenSetK_tup, gMinD, minDK_lst, giMem, giBA, gMIdx, goTab, gFsort, sortK_lst, sortK_tup])
local macro_rules | `(tactic| wp_walk using $ts,*) => `(tactic| simp only [$[$ts:term],*, gSeq, gSet, gRet, gRetN, gNext, gIfS, gDrop, gOwn, gApp, gExt, gForM, gLcM, gCnt, gTryV, gTryE, gxP, gxM, DL.Fr.mute, gIPut, gFrz, frz, gAsg, gPar, gPar3, gAug, gRaise, gRetM, gSetM, gMPut, gMGet, g1, g2, gC, gV, gVw, gB, gAnd, gOr, gNot, gNotV, gIf, DL.gCons, DL.gNil, DL.gTup, DL.gLst, gFl, gFd, gCa, gLenS, gPart, gNoP, gDisp, gPcons, gPnil, gtN, gtTup, gtCons, gtNil, gYes, gFor, gLc, giS, gCallP, gCallM, gScr, entry, aSls, aSl, DL.Fr.set, OM.d, wipeF, wipeS, keyD, List.length_cons, List.length_nil, List.cons_append, List.nil_append, List.append_nil, List.replicate_succ, List.replicate_zero, List.getElem?_cons_zero, List.getElem?_cons_succ, List.getElem?_nil, List.set_cons_zero, List.set_cons_succ, Nat.reduceAdd, Nat.reduceSub, if_true, if_false, ite_true, ite_false, reduceIte, Bool.false_eq_true, Bool.not_true, Bool.not_false, List.all_cons, List.all_nil, Bool.and_true, true_and, and_true, List.map_cons, List.map_nil, gIdx, ixT_ints, intsOf_map, Int.reduceToNat, Option.some.injEq, exists_eq_left', goAdd_int, goAdd_str, goAdd_tup, goAdd_lst, goAddW_int, goAddW_lst, goPlus_int, goI_int, guI_int, gcI1_int, goIx_lst, gcLen_lst, gcTupleS_lst, gcList_lst, goRevA_lst, goIx_tup, gcLen_tup, gcTupleS_tup, gcList_tup, goRevA_tup, gcTuple_lst, goIx_str, gcLen_str, gcInt_int, gcInt_bl, goMulT_tup, goMulL_lst, goIsB_bl, goIsN_non, isN_int, isN_bl, isN_str, isN_tup, isN_lst, isN_dic, isN_ref, isN_ty, isN_non, gTru_k, truK_non, truK_bl, truK_int, truK_lst, truK_tup, truK_str, gFlist_k, lstK_lst, lstK_tup, gsSl_k, slK_lst, slK_tup, slK_str, itsD_k, itsK_lst, itsK_tup, giZip_k, zipK_lst, zipK_tup, giR1_k, ran1K_nat, ran1K_int, giR2_k, ran2K_int, goLtA_int, goLtA_tup, ok_non, eqv_bl, goEq_int, goNe_int, goEq_bl, goNe_bl, gcMin_ints, gcMinT_ints, gcMax_ints, gcMaxT_ints, intsOf_mapf, blsOf_mapf, gcMin_f, gcMax_f, gcMin_2, gcMax_2, gcSum_ints, gcSum_f, gcBls_f, all_mapid, any_mapid, at_0, at_1, at_2, at_3, at_last, noOwn_nil, noOwn_1, noOwn_2, nof_n, nof_v, nof_b, nof_s, zipD_map, enumD_map, isi_non_int, isi_non_bool, isi_non_str, isi_non_tuple, isi_non_list, isi_non_dict, isi_bl_int, isi_bl_bool, isi_bl_str, isi_bl_tuple, isi_bl_list, isi_bl_dict, isi_int_int, isi_int_bool, isi_int_str, isi_int_tuple, isi_int_list, isi_int_dict, isi_str_int, isi_str_bool, isi_str_str, isi_str_tuple, isi_str_list, isi_str_dict, isi_tup_int, isi_tup_bool, isi_tup_str, isi_tup_tuple, isi_tup_list, isi_tup_dict, isi_lst_int, isi_lst_bool, isi_lst_str, isi_lst_tuple, isi_lst_list, isi_lst_dict, isi_dic_int, isi_dic_bool, isi_dic_str, isi_dic_tuple, isi_dic_list, isi_dic_dict, gcAll, gcAny, goMod, goFdiv, decide_eq_true_eq, Bool.not_eq_true', decide_eq_false_iff_not, ite_not, Bool.and_eq_true, not_false_eq_true, Bool.not_eq_true, List.map_append, Int.zero_add, List.any_cons, List.any_nil, Bool.true_and, Bool.or_false, Bool.xor_false, Bool.false_xor, Bool.true_xor, Bool.not_not, forall_const, Int.toNat_natCast, List.length_map, List.length_append, and_self, ne_eq, List.map_eq_nil_iff, not_true_eq_false, eq_self, goMulI, goSub, goPow, goLe, goGt, goGe, guNeg, gcAbs, goEq_str, goNe_str, goEq_tup, goNe_tup, goEq_lst, goNe_lst, goEq_non, goNe_non, gAndV_k, gOrV_k, gCh_k, blK_bl, ite_bf, reduceCtorEq, Int.reducePow, Int.reduceLT, Int.reduceLE, Int.reduceNeg, sz0, se0, sz1, se1, sz2, se2, sz3, se3, sz4, se4, sz5, se5, sz6, se6, sz7, se7, sz8, se8, sz9, se9, gFld, fldK_ref, gPutF, gPutFM, putFK_ref, gDrf, drfK_ref, gMApp, mlK_ref, gMPop, popK_int, gMIns, ins2K_2, insK_int, gMeth, mthK_ref, gMake, giR3, gFlR1, gFlR2, rg2K_int, gLenSet, lenSetK_lst, lenSetK_tup, gMinD, minDK_lst, giMem, giBA, gMIdx, goTab, gFsort, sortK_lst, sortK_tup])
variable {K : PySem.W.Frag}
def fs_p_chain_of (K : PySem.W.Frag) : FS := fun ds M Q _ => ∃ (d : D) (ns : List Int), ds = [d] ∧ seqOf d = some (ns.map .int) ∧ ns.length ≤ 1000 ∧ Q (chnD ns) M
theorem mo_p_chain_of {K : PySem.W.Frag} : MonoF (fs_p_chain_of K) := fun _ _ _ _ _ _ h _ ⟨d, ns, e, c, c2, q⟩ => ⟨d, ns, e, c, c2, h _ _ q⟩
/-- chain_of -/
def lp1_p_chain_of (K : PySem.W.Frag) : GS := gSet 1 (gTup (gCons (gV 2) (gCons (gV 1) gNil)))
def af1_p_chain_of (K : PySem.W.Frag) : GS := gRet (gV 1)
def g_p_chain_of (K : PySem.W.Frag) : GS := gSeq (gSet 1 (gTup (gNil))) (gSeq (gFor (itsD (fun ds => ds) (g1 goRevA (gV 0))) (gtN 2) (lp1_p_chain_of K)) (af1_p_chain_of K))
theorem h_p_chain_of {K : PySem.W.Frag} : ∀ ds M Q X, (fs_p_chain_of K) ds M Q X → ds.length = ([.v] : List AK).length → g_p_chain_of K { nx := fun _ M' => Q .non M', rt := Q } (entry 3 [.v] ds X) M := by
  rintro ds M Q X ⟨d, ns, rfl, hs, hl, q⟩ -
  cases d <;> simp only [seqOf, reduceCtorEq, Option.some.injEq] at hs <;> subst hs
  all_goals
    wp_walk using g_p_chain_of
    try rw [← List.map_reverse]
    refine loop_mp (enc := D.int) (fun (xs : List Int) r M' => M' = M ∧ ∃ (acc : List Int) (d0 : Sl) (x2 : Sl), ns = xs.reverse ++ acc ∧ r = ⟨[d0, .v (chnD acc), x2], X⟩) ?_ ?_ ns.reverse _ _ ⟨rfl, [], _, _, by rw [List.reverse_reverse, List.append_nil], rfl⟩
    · rintro r M' ⟨rfl, acc, d0, x2, e, rfl⟩
      wp_walk using af1_p_chain_of
      rw [show ns = acc from e] at q
      exact q
    · rintro x xs r M' ⟨rfl, acc, d0, x2, e, rfl⟩ N hN
      wp_walk using lp1_p_chain_of
      exact hN _ _ ⟨rfl, x :: acc, _, _, by rw [e, List.reverse_cons, List.append_assoc]; rfl, rfl⟩
def fs_Chain___init__ (K : PySem.W.Frag) : FS := fsRi K .chain
theorem mo_Chain___init__ {K : PySem.W.Frag} : MonoF (fs_Chain___init__ K) := fsRi_mono
def Fk_Chain (K : PySem.W.Frag) : Prop := Cls K (He.ga K "Chain") ∧ NoAttr K (He.ga K "Chain") "chain"
/-- Chain.__init__ -/
def g_Chain___init__ (K : PySem.W.Frag) : GS := gSeq (gDrop (gCallP (fs_p_need_row K) (gCons (gV 1) gNil))) (gPutF K "chain" (gV 0) (gCallP (fs_p_chain_of K) (gCons (gV 1) gNil)))
theorem h_Chain___init__ {K : PySem.W.Frag} : ∀ ds M Q X, (fs_Chain___init__ K) ds M Q X → ds.length = ([.v, .v] : List AK).length → g_Chain___init__ K { nx := fun _ M' => Q .non M', rt := Q } (entry 2 [.v, .v] ds X) M := by
  rintro ds M Q X ⟨a, d, rfl, ma, hc, hn, hd, q, q2⟩ -
  wp_walk using g_Chain___init__
  refine ⟨d, rfl, hd, fun h => ?_, q⟩
  obtain ⟨ns, rfl, hs⟩ := isRowB_iff.mp h
  wp_walk
  refine ⟨_, ns, rfl, rfl, by have := hs.len; omega, ?_⟩
  wp_walk using ma
  exact ⟨⟨hc, hn⟩, by simp, q2 ns _ a rfl hs (fun b _ hba => mup_ne hba) (.inl rfl) ⟨mup_same, rfl, hc, hn⟩⟩
def fs_Chain_form (K : PySem.W.Frag) : FS := fsRf K .chain
theorem mo_Chain_form {K : PySem.W.Frag} : MonoF (fs_Chain_form K) := fsRf_mono
/-- Chain.form -/
def g_Chain_form (K : PySem.W.Frag) : GS := gRet (gFld K "chain" (gV 0))
theorem h_Chain_form {K : PySem.W.Frag} : ∀ ds M Q X, (fs_Chain_form K) ds M Q X → ds.length = ([.v] : List AK).length → g_Chain_form K { nx := fun _ M' => Q .non M', rt := Q } (entry 1 [.v] ds X) M := by
  rintro ds M Q X ⟨a, l, ns, rfl, ⟨ma, rfl, hc, hn⟩, hs, q⟩ -
  wp_walk using g_Chain_form, ma, hc, hn, lk_chain
  exact q
end LW
namespace LW
open PySem PySem.Spec PySem.W PyProof.Rows L2 DL
local macro_rules | `(tactic| wp_walk) => `(tactic| simp only [gSeq, gSet, gRet, gRetN, gNext, gIfS, gDrop, gOwn, gApp, gExt, gForM, gLcM, gCnt, gTryV, gTryE, gxP, gxM, DL.Fr.mute, gIPut, gFrz, frz, gAsg, gPar, gPar3, gAug, gRaise, gRetM, gSetM, gMPut, gMGet, g1, g2, gC, gV, gVw, gB, gAnd, gOr, gNot, gNotV, gIf, DL.gCons, DL.gNil, DL.gTup, DL.gLst, gFl, gFd, gCa, gLenS, gPart, gNoP, gDisp, gPcons, gPnil, gtN, gtTup, gtCons, gtNil, gYes, gFor, gLc, giS, gCallP, gCallM, gScr, entry, aSls, aSl, DL.Fr.set, OM.d, wipeF, wipeS, keyD, List.length_cons, List.length_nil, List.cons_append, List.nil_append, List.append_nil, List.replicate_succ, List.replicate_zero, List.getElem?_cons_zero, List.getElem?_cons_succ, List.getElem?_nil, List.set_cons_zero, List.set_cons_succ, Nat.reduceAdd, Nat.reduceSub, if_true, if_false, ite_true, ite_false, reduceIte, Bool.false_eq_true, Bool.not_true, Bool.not_false, List.all_cons, List.all_nil, Bool.and_true, true_and, and_true, List.map_cons, List.map_nil, gIdx, ixT_ints, intsOf_map, Int.reduceToNat, Option.some.injEq, exists_eq_left', goAdd_int, goAdd_str, goAdd_tup, goAdd_lst, goAddW_int, goAddW_lst, goPlus_int, goI_int, guI_int, gcI1_int, goIx_lst, gcLen_lst, gcTupleS_lst, gcList_lst, goRevA_lst, goIx_tup, gcLen_tup, gcTupleS_tup, gcList_tup, goRevA_tup, gcTuple_lst, goIx_str, gcLen_str, gcInt_int, gcInt_bl, goMulT_tup, goMulL_lst, goIsB_bl, goIsN_non, isN_int, isN_bl, isN_str, isN_tup, isN_lst, isN_dic, isN_ref, isN_ty, isN_non, gTru_k, truK_non, truK_bl, truK_int, truK_lst, truK_tup, truK_str, gFlist_k, lstK_lst, lstK_tup, gsSl_k, slK_lst, slK_tup, slK_str, itsD_k, itsK_lst, itsK_tup, giZip_k, zipK_lst, zipK_tup, giR1_k, ran1K_nat, ran1K_int, giR2_k, ran2K_int, goLtA_int, goLtA_tup, ok_non, eqv_bl, goEq_int, goNe_int, goEq_bl, goNe_bl, gcMin_ints, gcMinT_ints, gcMax_ints, gcMaxT_ints, intsOf_mapf, blsOf_mapf, gcMin_f, gcMax_f, gcMin_2, gcMax_2, gcSum_ints, gcSum_f, gcBls_f, all_mapid, any_mapid, at_0, at_1, at_2, at_3, at_last, noOwn_nil, noOwn_1, noOwn_2, nof_n, nof_v, nof_b, nof_s, zipD_map, enumD_map, isi_non_int, isi_non_bool, isi_non_str, isi_non_tuple, isi_non_list, isi_non_dict, isi_bl_int, isi_bl_bool, isi_bl_str, isi_bl_tuple, isi_bl_list, isi_bl_dict, isi_int_int, isi_int_bool, isi_int_str, isi_int_tuple, isi_int_list, isi_int_dict, isi_str_int, isi_str_bool, isi_str_str, isi_str_tuple, isi_str_list, isi_str_dict, isi_tup_int, isi_tup_bool, isi_tup_str, isi_tup_tuple, isi_tup_list, isi_tup_dict, isi_lst_int, isi_lst_bool, isi_lst_str, isi_lst_tuple, isi_lst_list, isi_lst_dict, isi_dic_int, isi_dic_bool, isi_dic_str, isi_dic_tuple, isi_dic_list, isi_dic_dict, gcAll, gcAny, goMod, goFdiv, decide_eq_true_eq, Bool.not_eq_true', decide_eq_false_iff_not, ite_not, Bool.and_eq_true, not_false_eq_true, Bool.not_eq_true, List.map_append, Int.zero_add, List.any_cons, List.any_nil, Bool.true_and, Bool.or_false, Bool.xor_false, Bool.false_xor, Bool.true_xor, Bool.not_not, forall_const, Int.toNat_natCast, List.length_map, List.length_append, and_self, ne_eq, List.map_eq_nil_iff, not_true_eq_false, eq_self, goMulI, goSub, goPow, goLe, goGt, goGe, guNeg, gcAbs, goEq_str, goNe_str, goEq_tup, goNe_tup, goEq_lst, goNe_lst, goEq_non, goNe_non, gAndV_k, gOrV_k, gCh_k, blK_bl, ite_bf, reduceCtorEq, Int.reducePow, Int.reduceLT, Int.reduceLE, Int.reduceNeg, sz0, se0, sz1, se1, sz2, se2, sz3, se3, sz4, se4, sz5, se5, sz6, se6, sz7, se7, sz8, se8, sz9, se9, gFld, fldK_ref, gPutF, gPutFM, putFK_ref, gDrf, drfK_ref, gMApp, mlK_ref, gMPop, popK_int, gMIns, ins2K_2, insK_int, gMeth, mthK_ref, gMake, giR3, gFlR1, gFlR2, rg2K_int, gLenSet, lenSetK_lst, lenSetK_tup, gMinD, minDK_lst, giMem, giBA, gMIdx, goTab, gFsort, sortK_lst, sortK_tup])
local macro_rules | `(tactic| wp_walk using $ts,*) => `(tactic| simp only [$[$ts:term],*, gSeq, gSet, gRet, gRetN, gNext, gIfS, gDrop, gOwn, gApp, gExt, gForM, gLcM, gCnt, gTryV, gTryE, gxP, gxM, DL.Fr.mute, gIPut, gFrz, frz, gAsg, gPar, gPar3, gAug, gRaise, gRetM, gSetM, gMPut, gMGet, g1, g2, gC, gV, gVw, gB, gAnd, gOr, gNot, gNotV, gIf, DL.gCons, DL.gNil, DL.gTup, DL.gLst, gFl, gFd, gCa, gLenS, gPart, gNoP, gDisp, gPcons, gPnil, gtN, gtTup, gtCons, gtNil, gYes, gFor, gLc, giS, gCallP, gCallM, gScr, entry, aSls, aSl, DL.Fr.set, OM.d, wipeF, wipeS, keyD, List.length_cons, List.length_nil, List.cons_append, List.nil_append, List.append_nil, List.replicate_succ, List.replicate_zero, List.getElem?_cons_zero, List.getElem?_cons_succ, List.getElem?_nil, List.set_cons_zero, List.set_cons_succ, Nat.reduceAdd, Nat.reduceSub, if_true, if_false, ite_true, ite_false, reduceIte, Bool.false_eq_true, Bool.not_true, Bool.not_false, List.all_cons, List.all_nil, Bool.and_true, true_and, and_true, List.map_cons, List.map_nil, gIdx, ixT_ints, intsOf_map, Int.reduceToNat, Option.some.injEq, exists_eq_left', goAdd_int, goAdd_str, goAdd_tup, goAdd_lst, goAddW_int, goAddW_lst, goPlus_int, goI_int, guI_int, gcI1_int, goIx_lst, gcLen_lst, gcTupleS_lst, gcList_lst, goRevA_lst, goIx_tup, gcLen_tup, gcTupleS_tup, gcList_tup, goRevA_tup, gcTuple_lst, goIx_str, gcLen_str, gcInt_int, gcInt_bl, goMulT_tup, goMulL_lst, goIsB_bl, goIsN_non, isN_int, isN_bl, isN_str, isN_tup, isN_lst, isN_dic, isN_ref, isN_ty, isN_non, gTru_k, truK_non, truK_bl, truK_int, truK_lst, truK_tup, truK_str, gFlist_k, lstK_lst, lstK_tup, gsSl_k, slK_lst, slK_tup, slK_str, itsD_k, itsK_lst, itsK_tup, giZip_k, zipK_lst, zipK_tup, giR1_k, ran1K_nat, ran1K_int, giR2_k, ran2K_int, goLtA_int, goLtA_tup, ok_non, eqv_bl, goEq_int, goNe_int, goEq_bl, goNe_bl, gcMin_ints, gcMinT_ints, gcMax_ints, gcMaxT_ints, intsOf_mapf, blsOf_mapf, gcMin_f, gcMax_f, gcMin_2, gcMax_2, gcSum_ints, gcSum_f, gcBls_f, all_mapid, any_mapid, at_0, at_1, at_2, at_3, at_last, noOwn_nil, noOwn_1, noOwn_2, nof_n, nof_v, nof_b, nof_s, zipD_map, enumD_map, isi_non_int, isi_non_bool, isi_non_str, isi_non_tuple, isi_non_list, isi_non_dict, isi_bl_int, isi_bl_bool, isi_bl_str, isi_bl_tuple, isi_bl_list, isi_bl_dict, isi_int_int, isi_int_bool, isi_int_str, isi_int_tuple, isi_int_list, isi_int_dict, isi_str_int, isi_str_bool, isi_str_str, isi_str_tuple, isi_str_list, isi_str_dict, isi_tup_int, isi_tup_bool, isi_tup_str, isi_tup_tuple, isi_tup_list, isi_tup_dict, isi_lst_int, isi_lst_bool, isi_lst_str, isi_lst_tuple, isi_lst_list, isi_lst_dict, isi_dic_int, isi_dic_bool, isi_dic_str, isi_dic_tuple, isi_dic_list, isi_dic_dict, gcAll, gcAny, goMod, goFdiv, decide_eq_true_eq, Bool.not_eq_true', decide_eq_false_iff_not, ite_not, Bool.and_eq_true, not_false_eq_true, Bool.not_eq_true, List.map_append, Int.zero_add, List.any_cons, List.any_nil, Bool.true_and, Bool.or_false, Bool.xor_false, Bool.false_xor, Bool.true_xor, Bool.not_not, forall_const, Int.toNat_natCast, List.length_map, List.length_append, and_self, ne_eq, List.map_eq_nil_iff, not_true_eq_false, eq_self, goMulI, goSub, goPow, goLe, goGt, goGe, guNeg, gcAbs, goEq_str, goNe_str, goEq_tup, goNe_tup, goEq_lst, goNe_lst, goEq_non, goNe_non, gAndV_k, gOrV_k, gCh_k, blK_bl, ite_bf, reduceCtorEq, Int.reducePow, Int.reduceLT, Int.reduceLE, Int.reduceNeg, sz0, se0, sz1, se1, sz2, se2, sz3, se3, sz4, se4, sz5, se5, sz6, se6, sz7, se7, sz8, se8, sz9, se9, gFld, fldK_ref, gPutF, gPutFM, putFK_ref, gDrf, drfK_ref, gMApp, mlK_ref, gMPop, popK_int, gMIns, ins2K_2, insK_int, gMeth, mthK_ref, gMake, giR3, gFlR1, gFlR2, rg2K_int, gLenSet, lenSetK_lst, lenSetK_tup, gMinD, minDK_lst, giMem, giBA, gMIdx, goTab, gFsort, sortK_lst, sortK_tup])
variable {K : PySem.W.Frag}
theorem chk_len40 {ns : List Int} (hs : RowN ns) : (chk ns).length ≤ 5 := by rw [chk_len]; have := hs.len; omega
def fs_p_blocks_of (K : PySem.W.Frag) : FS := fun ds M Q _ => ∃ (d : D) (ns : List Int), ds = [d] ∧ seqOf d = some (ns.map .int) ∧ ns.length ≤ 1000 ∧ Q (.lst ((chk ns).map lI)) M
theorem mo_p_blocks_of {K : PySem.W.Frag} : MonoF (fs_p_blocks_of K) := fun _ _ _ _ _ _ h _ ⟨d, ns, e, c, c2, q⟩ => ⟨d, ns, e, c, c2, h _ _ q⟩
/-- blocks_of -/
def g_p_blocks_of (K : PySem.W.Frag) : GS := gRet (gFd (gLc (giR3 (gCons (gC (.int 0)) (gCons (gCa gcLen (gCons (gV 0) gNil)) (gCons (gC (.int 8)) gNil)))) (gtN 1) (gYes) (gFd (gFlist (gsSl true (gV 0) (gPart (gV 1)) (gPart (g2 goAdd (gV 1) (gC (.int 8))))))) [1]))
theorem h_p_blocks_of {K : PySem.W.Frag} : ∀ ds M Q X, (fs_p_blocks_of K) ds M Q X → ds.length = ([.v] : List AK).length → g_p_blocks_of K { nx := fun _ M' => Q .non M', rt := Q } (entry 2 [.v] ds X) M := by
  rintro ds M Q X ⟨d, ns, rfl, hs, hl, q⟩ -
  cases d <;> simp only [seqOf, reduceCtorEq, Option.some.injEq] at hs <;> subst hs
  all_goals
    wp_walk using g_p_blocks_of
    refine ⟨_, rg8 hl, ?_⟩
    refine lc_mp (xs := List.range ((ns.length + 7) / 8)) (enc := fun (i : Nat) => D.int (0 + (i : Int) * 8)) (f := fun i => lI (eight ns i)) (fun i hi Q' q' => ?_) (size_of (by simp; omega)) ?_
    · have hi := List.mem_range.mp hi
      have e := cut_eight hi
      rw [Int.zero_add] at e
      wp_walk using e
      exact q'
    · rw [List.nil_append, show (List.range ((ns.length + 7) / 8)).map (fun i => lI (eight ns i)) = (chk ns).map lI by unfold chk; rw [List.map_map]; rfl]
      exact q
def fs_Blocks___init__ (K : PySem.W.Frag) : FS := fsRi K .blocks
theorem mo_Blocks___init__ {K : PySem.W.Frag} : MonoF (fs_Blocks___init__ K) := fsRi_mono
def Fk_Blocks (K : PySem.W.Frag) : Prop := Cls K (He.ga K "Blocks") ∧ NoAttr K (He.ga K "Blocks") "blocks"
/-- Blocks.__init__ -/
def g_Blocks___init__ (K : PySem.W.Frag) : GS := gSeq (gDrop (gCallP (fs_p_need_row K) (gCons (gV 1) gNil))) (gPutF K "blocks" (gV 0) (gCallP (fs_p_blocks_of K) (gCons (gV 1) gNil)))
theorem h_Blocks___init__ {K : PySem.W.Frag} : ∀ ds M Q X, (fs_Blocks___init__ K) ds M Q X → ds.length = ([.v, .v] : List AK).length → g_Blocks___init__ K { nx := fun _ M' => Q .non M', rt := Q } (entry 2 [.v, .v] ds X) M := by
  rintro ds M Q X ⟨a, d, rfl, ma, hc, hn, hd, q, q2⟩ -
  wp_walk using g_Blocks___init__
  refine ⟨d, rfl, hd, fun h => ?_, q⟩
  obtain ⟨ns, rfl, hs⟩ := isRowB_iff.mp h
  wp_walk
  refine ⟨_, ns, rfl, rfl, by have := hs.len; omega, ?_⟩
  wp_walk using ma
  exact ⟨⟨hc, hn⟩, by simp, q2 ns _ a rfl hs (fun b _ hba => mup_ne hba) (.inl rfl) ⟨mup_same, rfl, hc, hn⟩⟩
def fs_Blocks_form (K : PySem.W.Frag) : FS := fsRf K .blocks
theorem mo_Blocks_form {K : PySem.W.Frag} : MonoF (fs_Blocks_form K) := fsRf_mono
/-- Blocks.form -/
def g_Blocks_form (K : PySem.W.Frag) : GS := gRet (gCa gcTupleS (gCons (gFd (gLc (itsD (fun ds => ds) (gFld K "blocks" (gV 0))) (gtN 1) (gYes) (gCa gcTupleS (gCons (gV 1) gNil)) [1])) gNil))
theorem h_Blocks_form {K : PySem.W.Frag} : ∀ ds M Q X, (fs_Blocks_form K) ds M Q X → ds.length = ([.v] : List AK).length → g_Blocks_form K { nx := fun _ M' => Q .non M', rt := Q } (entry 2 [.v] ds X) M := by
  rintro ds M Q X ⟨a, l, ns, rfl, ⟨ma, rfl, hc, hn⟩, hs, q⟩ -
  have hb := chk_len40 hs
  wp_walk using g_Blocks_form, ma, hc, hn, lk_blocks
  refine lc_mp (xs := chk ns) (enc := lI) (f := tI) (fun c hc Q' q' => ?_) (size_of (by simp; omega)) ?_
  · wp_walk using lI
    exact q'
  · rw [List.nil_append]
    wp_walk
    exact q
end LW
namespace LW
open PySem PySem.Spec PySem.W PyProof.Rows L2 DL
local macro_rules | `(tactic| wp_walk) => `(tactic| simp only [gSeq, gSet, gRet, gRetN, gNext, gIfS, gDrop, gOwn, gApp, gExt, gForM, gLcM, gCnt, gTryV, gTryE, gxP, gxM, DL.Fr.mute, gIPut, gFrz, frz, gAsg, gPar, gPar3, gAug, gRaise, gRetM, gSetM, gMPut, gMGet, g1, g2, gC, gV, gVw, gB, gAnd, gOr, gNot, gNotV, gIf, DL.gCons, DL.gNil, DL.gTup, DL.gLst, gFl, gFd, gCa, gLenS, gPart, gNoP, gDisp, gPcons, gPnil, gtN, gtTup, gtCons, gtNil, gYes, gFor, gLc, giS, gCallP, gCallM, gScr, entry, aSls, aSl, DL.Fr.set, OM.d, wipeF, wipeS, keyD, List.length_cons, List.length_nil, List.cons_append, List.nil_append, List.append_nil, List.replicate_succ, List.replicate_zero, List.getElem?_cons_zero, List.getElem?_cons_succ, List.getElem?_nil, List.set_cons_zero, List.set_cons_succ, Nat.reduceAdd, Nat.reduceSub, if_true, if_false, ite_true, ite_false, reduceIte, Bool.false_eq_true, Bool.not_true, Bool.not_false, List.all_cons, List.all_nil, Bool.and_true, true_and, and_true, List.map_cons, List.map_nil, gIdx, ixT_ints, intsOf_map, Int.reduceToNat, Option.some.injEq, exists_eq_left', goAdd_int, goAdd_str, goAdd_tup, goAdd_lst, goAddW_int, goAddW_lst, goPlus_int, goI_int, guI_int, gcI1_int, goIx_lst, gcLen_lst, gcTupleS_lst, gcList_lst, goRevA_lst, goIx_tup, gcLen_tup, gcTupleS_tup, gcList_tup, goRevA_tup, gcTuple_lst, goIx_str, gcLen_str, gcInt_int, gcInt_bl, goMulT_tup, goMulL_lst, goIsB_bl, goIsN_non, isN_int, isN_bl, isN_str, isN_tup, isN_lst, isN_dic, isN_ref, isN_ty, isN_non, gTru_k, truK_non, truK_bl, truK_int, truK_lst, truK_tup, truK_str, gFlist_k, lstK_lst, lstK_tup, gsSl_k, slK_lst, slK_tup, slK_str, itsD_k, itsK_lst, itsK_tup, giZip_k, zipK_lst, zipK_tup, giR1_k, ran1K_nat, ran1K_int, giR2_k, ran2K_int, goLtA_int, goLtA_tup, ok_non, eqv_bl, goEq_int, goNe_int, goEq_bl, goNe_bl, gcMin_ints, gcMinT_ints, gcMax_ints, gcMaxT_ints, intsOf_mapf, blsOf_mapf, gcMin_f, gcMax_f, gcMin_2, gcMax_2, gcSum_ints, gcSum_f, gcBls_f, all_mapid, any_mapid, at_0, at_1, at_2, at_3, at_last, noOwn_nil, noOwn_1, noOwn_2, nof_n, nof_v, nof_b, nof_s, zipD_map, enumD_map, isi_non_int, isi_non_bool, isi_non_str, isi_non_tuple, isi_non_list, isi_non_dict, isi_bl_int, isi_bl_bool, isi_bl_str, isi_bl_tuple, isi_bl_list, isi_bl_dict, isi_int_int, isi_int_bool, isi_int_str, isi_int_tuple, isi_int_list, isi_int_dict, isi_str_int, isi_str_bool, isi_str_str, isi_str_tuple, isi_str_list, isi_str_dict, isi_tup_int, isi_tup_bool, isi_tup_str, isi_tup_tuple, isi_tup_list, isi_tup_dict, isi_lst_int, isi_lst_bool, isi_lst_str, isi_lst_tuple, isi_lst_list, isi_lst_dict, isi_dic_int, isi_dic_bool, isi_dic_str, isi_dic_tuple, isi_dic_list, isi_dic_dict, gcAll, gcAny, goMod, goFdiv, decide_eq_true_eq, Bool.not_eq_true', decide_eq_false_iff_not, ite_not, Bool.and_eq_true, not_false_eq_true, Bool.not_eq_true, List.map_append, Int.zero_add, List.any_cons, List.any_nil, Bool.true_and, Bool.or_false, Bool.xor_false, Bool.false_xor, Bool.true_xor, Bool.not_not, forall_const, Int.toNat_natCast, List.length_map, List.length_append, and_self, ne_eq, List.map_eq_nil_iff, not_true_eq_false, eq_self, goMulI, goSub, goPow, goLe, goGt, goGe, guNeg, gcAbs, goEq_str, goNe_str, goEq_tup, goNe_tup, goEq_lst, goNe_lst, goEq_non, goNe_non, gAndV_k, gOrV_k, gCh_k, blK_bl, ite_bf, reduceCtorEq, Int.reducePow, Int.reduceLT, Int.reduceLE, Int.reduceNeg, sz0, se0, sz1, se1, sz2, se2, sz3, se3, sz4, se4, sz5, se5, sz6, se6, sz7, se7, sz8, se8, sz9, se9, gFld, fldK_ref, gPutF, gPutFM, putFK_ref, gDrf, drfK_ref, gMApp, mlK_ref, gMPop, popK_int, gMIns, ins2K_2, insK_int, gMeth, mthK_ref, gMake, giR3, gFlR1, gFlR2, rg2K_int, gLenSet, lenSetK_lst, lenSetK_tup, gMinD, minDK_lst, giMem, giBA, gMIdx, goTab, gFsort, sortK_lst, sortK_tup, gStep, stepK_lst, gAppM])
local macro_rules | `(tactic| wp_walk using $ts,*) => `(tactic| simp only [$[$ts:term],*, gSeq, gSet, gRet, gRetN, gNext, gIfS, gDrop, gOwn, gApp, gExt, gForM, gLcM, gCnt, gTryV, gTryE, gxP, gxM, DL.Fr.mute, gIPut, gFrz, frz, gAsg, gPar, gPar3, gAug, gRaise, gRetM, gSetM, gMPut, gMGet, g1, g2, gC, gV, gVw, gB, gAnd, gOr, gNot, gNotV, gIf, DL.gCons, DL.gNil, DL.gTup, DL.gLst, gFl, gFd, gCa, gLenS, gPart, gNoP, gDisp, gPcons, gPnil, gtN, gtTup, gtCons, gtNil, gYes, gFor, gLc, giS, gCallP, gCallM, gScr, entry, aSls, aSl, DL.Fr.set, OM.d, wipeF, wipeS, keyD, List.length_cons, List.length_nil, List.cons_append, List.nil_append, List.append_nil, List.replicate_succ, List.replicate_zero, List.getElem?_cons_zero, List.getElem?_cons_succ, List.getElem?_nil, List.set_cons_zero, List.set_cons_succ, Nat.reduceAdd, Nat.reduceSub, if_true, if_false, ite_true, ite_false, reduceIte, Bool.false_eq_true, Bool.not_true, Bool.not_false, List.all_cons, List.all_nil, Bool.and_true, true_and, and_true, List.map_cons, List.map_nil, gIdx, ixT_ints, intsOf_map, Int.reduceToNat, Option.some.injEq, exists_eq_left', goAdd_int, goAdd_str, goAdd_tup, goAdd_lst, goAddW_int, goAddW_lst, goPlus_int, goI_int, guI_int, gcI1_int, goIx_lst, gcLen_lst, gcTupleS_lst, gcList_lst, goRevA_lst, goIx_tup, gcLen_tup, gcTupleS_tup, gcList_tup, goRevA_tup, gcTuple_lst, goIx_str, gcLen_str, gcInt_int, gcInt_bl, goMulT_tup, goMulL_lst, goIsB_bl, goIsN_non, isN_int, isN_bl, isN_str, isN_tup, isN_lst, isN_dic, isN_ref, isN_ty, isN_non, gTru_k, truK_non, truK_bl, truK_int, truK_lst, truK_tup, truK_str, gFlist_k, lstK_lst, lstK_tup, gsSl_k, slK_lst, slK_tup, slK_str, itsD_k, itsK_lst, itsK_tup, giZip_k, zipK_lst, zipK_tup, giR1_k, ran1K_nat, ran1K_int, giR2_k, ran2K_int, goLtA_int, goLtA_tup, ok_non, eqv_bl, goEq_int, goNe_int, goEq_bl, goNe_bl, gcMin_ints, gcMinT_ints, gcMax_ints, gcMaxT_ints, intsOf_mapf, blsOf_mapf, gcMin_f, gcMax_f, gcMin_2, gcMax_2, gcSum_ints, gcSum_f, gcBls_f, all_mapid, any_mapid, at_0, at_1, at_2, at_3, at_last, noOwn_nil, noOwn_1, noOwn_2, nof_n, nof_v, nof_b, nof_s, zipD_map, enumD_map, isi_non_int, isi_non_bool, isi_non_str, isi_non_tuple, isi_non_list, isi_non_dict, isi_bl_int, isi_bl_bool, isi_bl_str, isi_bl_tuple, isi_bl_list, isi_bl_dict, isi_int_int, isi_int_bool, isi_int_str, isi_int_tuple, isi_int_list, isi_int_dict, isi_str_int, isi_str_bool, isi_str_str, isi_str_tuple, isi_str_list, isi_str_dict, isi_tup_int, isi_tup_bool, isi_tup_str, isi_tup_tuple, isi_tup_list, isi_tup_dict, isi_lst_int, isi_lst_bool, isi_lst_str, isi_lst_tuple, isi_lst_list, isi_lst_dict, isi_dic_int, isi_dic_bool, isi_dic_str, isi_dic_tuple, isi_dic_list, isi_dic_dict, gcAll, gcAny, goMod, goFdiv, decide_eq_true_eq, Bool.not_eq_true', decide_eq_false_iff_not, ite_not, Bool.and_eq_true, not_false_eq_true, Bool.not_eq_true, List.map_append, Int.zero_add, List.any_cons, List.any_nil, Bool.true_and, Bool.or_false, Bool.xor_false, Bool.false_xor, Bool.true_xor, Bool.not_not, forall_const, Int.toNat_natCast, List.length_map, List.length_append, and_self, ne_eq, List.map_eq_nil_iff, not_true_eq_false, eq_self, goMulI, goSub, goPow, goLe, goGt, goGe, guNeg, gcAbs, goEq_str, goNe_str, goEq_tup, goNe_tup, goEq_lst, goNe_lst, goEq_non, goNe_non, gAndV_k, gOrV_k, gCh_k, blK_bl, ite_bf, reduceCtorEq, Int.reducePow, Int.reduceLT, Int.reduceLE, Int.reduceNeg, sz0, se0, sz1, se1, sz2, se2, sz3, se3, sz4, se4, sz5, se5, sz6, se6, sz7, se7, sz8, se8, sz9, se9, gFld, fldK_ref, gPutF, gPutFM, putFK_ref, gDrf, drfK_ref, gMApp, mlK_ref, gMPop, popK_int, gMIns, ins2K_2, insK_int, gMeth, mthK_ref, gMake, giR3, gFlR1, gFlR2, rg2K_int, gLenSet, lenSetK_lst, lenSetK_tup, gMinD, minDK_lst, giMem, giBA, gMIdx, goTab, gFsort, sortK_lst, sortK_tup, gStep, stepK_lst, gAppM])
variable {K : PySem.W.Frag}
theorem RowAt.kept {k : KR} {M M' : Mem} {a l : Addr} {ns : List Int} (h : RowAt K k M a l ns) (o : ∀ b, M b ≠ none → M' b = M b) : RowAt K k M' a l ns := by
  cases k with
  | strip => exact ⟨(o a (by rw [h.1]; simp)).trans h.1, (o l (by rw [h.2.1]; simp)).trans h.2.1, h.2.2⟩
  | chain => exact ⟨(o a (by rw [h.1]; simp)).trans h.1, h.2⟩
  | blocks => exact ⟨(o a (by rw [h.1]; simp)).trans h.1, h.2⟩
theorem RowAt.there {k : KR} {M : Mem} {a l : Addr} {ns : List Int} (h : RowAt K k M a l ns) : (∃ v, M a = some (.ins (He.ga K k.C) [(k.f, .v v)])) ∧ M l ≠ none ∧ (l = a ∨ k = .strip ∧ ∃ ds, M l = some (.om (.lst ds))) := by
  cases k with
  | strip => exact ⟨⟨_, h.1⟩, by rw [h.2.1]; simp, .inr ⟨rfl, _, h.2.1⟩⟩
  | chain => exact ⟨⟨_, h.1⟩, by rw [h.2.1, h.1]; simp, .inl h.2.1⟩
  | blocks => exact ⟨⟨_, h.1⟩, by rw [h.2.1, h.1]; simp, .inl h.2.1⟩
theorem RowAt.made {M M1 : Mem} {x l : Addr} {o : MO} (nx : M x = none) (hfr : ∀ b, mup M x o b ≠ none → b ≠ x → M1 b = mup M x o b) (hl : l = x ∨ mup M x o l = none) : (∀ b, M b ≠ none → M1 b = M b) ∧ M l = none := by
  refine ⟨fun b hb => ?_, ?_⟩
  · have nb : b ≠ x := fun e => hb (by rw [e]; exact nx)
    rw [hfr b (by rw [mup_ne nb]; exact hb) nb, mup_ne nb]
  · rcases hl with rfl | hl
    · exact nx
    · have nl : l ≠ x := fun e => by rw [e, mup_same] at hl; cases hl
      rw [mup_ne nl] at hl
      exact hl
def KR.n : KR → Int
  | .strip => 0
  | .chain => 1
  | .blocks => 2
instance : DecidableEq KR := fun a b => match a, b with
  | .strip, .strip => isTrue rfl
  | .chain, .chain => isTrue rfl
  | .blocks, .blocks => isTrue rfl
  | .strip, .chain => isFalse fun h => by cases h
  | .strip, .blocks => isFalse fun h => by cases h
  | .chain, .strip => isFalse fun h => by cases h
  | .chain, .blocks => isFalse fun h => by cases h
  | .blocks, .strip => isFalse fun h => by cases h
  | .blocks, .chain => isFalse fun h => by cases h
theorem form_at {k : KR} {a l : Addr} {ns : List Int} {v : Fl} {M : Mem} {Q : D → Mem → Prop} {X : Addr → Mem → Prop} (hh : RowAt K k M a l ns) (hs : RowN ns) (q : Q (frmR k ns) M) :
    List.lookup ("form" : PySem.Str) [(k.f, v)] = none ∧ ∃ fs, (He.ga K k.C, fs) ∈ [(He.ga K "Strip", fs_Strip_form K), (He.ga K "Blocks", fs_Blocks_form K), (He.ga K "Chain", fs_Chain_form K)] ∧ fs [.ref a] M Q X := by
  cases k with
  | strip => exact ⟨rfl, _, List.mem_cons_self .., a, l, ns, rfl, hh, hs, q⟩
  | chain => exact ⟨rfl, _, List.mem_cons_of_mem _ (List.mem_cons_of_mem _ (List.mem_cons_self ..)), a, l, ns, rfl, hh, hs, q⟩
  | blocks => exact ⟨rfl, _, List.mem_cons_of_mem _ (List.mem_cons_self ..), a, l, ns, rfl, hh, hs, q⟩
theorem Only2.kept {M M' M'' : Mem} {a l : Addr} (f : ∀ b, M b ≠ none → M' b = M b) (o : Only2 M' M'' a l) (na : M a = none) (nl : M l = none) : ∀ b, M b ≠ none → M'' b = M b := fun b hb => by
  rw [o b (fun e => hb (by rw [e]; exact na)) (fun e => hb (by rw [e]; exact nl)), f b hb]
end LW
namespace LW
open PySem PySem.Spec PySem.W PyProof.Rows L2 DL
local macro_rules | `(tactic| wp_walk) => `(tactic| simp only [gSeq, gSet, gRet, gRetN, gNext, gIfS, gDrop, gOwn, gApp, gExt, gForM, gLcM, gCnt, gTryV, gTryE, gxP, gxM, DL.Fr.mute, gIPut, gFrz, frz, gAsg, gPar, gPar3, gAug, gRaise, gRetM, gSetM, gMPut, gMGet, g1, g2, gC, gV, gVw, gB, gAnd, gOr, gNot, gNotV, gIf, DL.gCons, DL.gNil, DL.gTup, DL.gLst, gFl, gFd, gCa, gLenS, gPart, gNoP, gDisp, gPcons, gPnil, gtN, gtTup, gtCons, gtNil, gYes, gFor, gLc, giS, gCallP, gCallM, gScr, entry, aSls, aSl, DL.Fr.set, OM.d, wipeF, wipeS, keyD, List.length_cons, List.length_nil, List.cons_append, List.nil_append, List.append_nil, List.replicate_succ, List.replicate_zero, List.getElem?_cons_zero, List.getElem?_cons_succ, List.getElem?_nil, List.set_cons_zero, List.set_cons_succ, Nat.reduceAdd, Nat.reduceSub, if_true, if_false, ite_true, ite_false, reduceIte, Bool.false_eq_true, Bool.not_true, Bool.not_false, List.all_cons, List.all_nil, Bool.and_true, true_and, and_true, List.map_cons, List.map_nil, gIdx, ixT_ints, intsOf_map, Int.reduceToNat, Option.some.injEq, exists_eq_left', goAdd_int, goAdd_str, goAdd_tup, goAdd_lst, goAddW_int, goAddW_lst, goPlus_int, goI_int, guI_int, gcI1_int, goIx_lst, gcLen_lst, gcTupleS_lst, gcList_lst, goRevA_lst, goIx_tup, gcLen_tup, gcTupleS_tup, gcList_tup, goRevA_tup, gcTuple_lst, goIx_str, gcLen_str, gcInt_int, gcInt_bl, goMulT_tup, goMulL_lst, goIsB_bl, goIsN_non, isN_int, isN_bl, isN_str, isN_tup, isN_lst, isN_dic, isN_ref, isN_ty, isN_non, gTru_k, truK_non, truK_bl, truK_int, truK_lst, truK_tup, truK_str, gFlist_k, lstK_lst, lstK_tup, gsSl_k, slK_lst, slK_tup, slK_str, itsD_k, itsK_lst, itsK_tup, giZip_k, zipK_lst, zipK_tup, giR1_k, ran1K_nat, ran1K_int, giR2_k, ran2K_int, goLtA_int, goLtA_tup, ok_non, eqv_bl, goEq_int, goNe_int, goEq_bl, goNe_bl, gcMin_ints, gcMinT_ints, gcMax_ints, gcMaxT_ints, intsOf_mapf, blsOf_mapf, gcMin_f, gcMax_f, gcMin_2, gcMax_2, gcSum_ints, gcSum_f, gcBls_f, all_mapid, any_mapid, at_0, at_1, at_2, at_3, at_last, noOwn_nil, noOwn_1, noOwn_2, nof_n, nof_v, nof_b, nof_s, zipD_map, enumD_map, isi_non_int, isi_non_bool, isi_non_str, isi_non_tuple, isi_non_list, isi_non_dict, isi_bl_int, isi_bl_bool, isi_bl_str, isi_bl_tuple, isi_bl_list, isi_bl_dict, isi_int_int, isi_int_bool, isi_int_str, isi_int_tuple, isi_int_list, isi_int_dict, isi_str_int, isi_str_bool, isi_str_str, isi_str_tuple, isi_str_list, isi_str_dict, isi_tup_int, isi_tup_bool, isi_tup_str, isi_tup_tuple, isi_tup_list, isi_tup_dict, isi_lst_int, isi_lst_bool, isi_lst_str, isi_lst_tuple, isi_lst_list, isi_lst_dict, isi_dic_int, isi_dic_bool, isi_dic_str, isi_dic_tuple, isi_dic_list, isi_dic_dict, gcAll, gcAny, goMod, goFdiv, decide_eq_true_eq, Bool.not_eq_true', decide_eq_false_iff_not, ite_not, Bool.and_eq_true, not_false_eq_true, Bool.not_eq_true, List.map_append, Int.zero_add, List.any_cons, List.any_nil, Bool.true_and, Bool.or_false, Bool.xor_false, Bool.false_xor, Bool.true_xor, Bool.not_not, forall_const, Int.toNat_natCast, List.length_map, List.length_append, and_self, ne_eq, List.map_eq_nil_iff, not_true_eq_false, eq_self, goMulI, goSub, goPow, goLe, goGt, goGe, guNeg, gcAbs, goEq_str, goNe_str, goEq_tup, goNe_tup, goEq_lst, goNe_lst, goEq_non, goNe_non, gAndV_k, gOrV_k, gCh_k, blK_bl, ite_bf, reduceCtorEq, Int.reducePow, Int.reduceLT, Int.reduceLE, Int.reduceNeg, sz0, se0, sz1, se1, sz2, se2, sz3, se3, sz4, se4, sz5, se5, sz6, se6, sz7, se7, sz8, se8, sz9, se9, gFld, fldK_ref, gPutF, gPutFM, putFK_ref, gDrf, drfK_ref, gMApp, mlK_ref, gMPop, popK_int, gMIns, ins2K_2, insK_int, gMeth, mthK_ref, gMake, giR3, gFlR1, gFlR2, rg2K_int, gLenSet, lenSetK_lst, lenSetK_tup, gMinD, minDK_lst, giMem, giBA, gMIdx, goTab, gFsort, sortK_lst, sortK_tup])
local macro_rules | `(tactic| wp_walk using $ts,*) => `(tactic| simp only [$[$ts:term],*, gSeq, gSet, gRet, gRetN, gNext, gIfS, gDrop, gOwn, gApp, gExt, gForM, gLcM, gCnt, gTryV, gTryE, gxP, gxM, DL.Fr.mute, gIPut, gFrz, frz, gAsg, gPar, gPar3, gAug, gRaise, gRetM, gSetM, gMPut, gMGet, g1, g2, gC, gV, gVw, gB, gAnd, gOr, gNot, gNotV, gIf, DL.gCons, DL.gNil, DL.gTup, DL.gLst, gFl, gFd, gCa, gLenS, gPart, gNoP, gDisp, gPcons, gPnil, gtN, gtTup, gtCons, gtNil, gYes, gFor, gLc, giS, gCallP, gCallM, gScr, entry, aSls, aSl, DL.Fr.set, OM.d, wipeF, wipeS, keyD, List.length_cons, List.length_nil, List.cons_append, List.nil_append, List.append_nil, List.replicate_succ, List.replicate_zero, List.getElem?_cons_zero, List.getElem?_cons_succ, List.getElem?_nil, List.set_cons_zero, List.set_cons_succ, Nat.reduceAdd, Nat.reduceSub, if_true, if_false, ite_true, ite_false, reduceIte, Bool.false_eq_true, Bool.not_true, Bool.not_false, List.all_cons, List.all_nil, Bool.and_true, true_and, and_true, List.map_cons, List.map_nil, gIdx, ixT_ints, intsOf_map, Int.reduceToNat, Option.some.injEq, exists_eq_left', goAdd_int, goAdd_str, goAdd_tup, goAdd_lst, goAddW_int, goAddW_lst, goPlus_int, goI_int, guI_int, gcI1_int, goIx_lst, gcLen_lst, gcTupleS_lst, gcList_lst, goRevA_lst, goIx_tup, gcLen_tup, gcTupleS_tup, gcList_tup, goRevA_tup, gcTuple_lst, goIx_str, gcLen_str, gcInt_int, gcInt_bl, goMulT_tup, goMulL_lst, goIsB_bl, goIsN_non, isN_int, isN_bl, isN_str, isN_tup, isN_lst, isN_dic, isN_ref, isN_ty, isN_non, gTru_k, truK_non, truK_bl, truK_int, truK_lst, truK_tup, truK_str, gFlist_k, lstK_lst, lstK_tup, gsSl_k, slK_lst, slK_tup, slK_str, itsD_k, itsK_lst, itsK_tup, giZip_k, zipK_lst, zipK_tup, giR1_k, ran1K_nat, ran1K_int, giR2_k, ran2K_int, goLtA_int, goLtA_tup, ok_non, eqv_bl, goEq_int, goNe_int, goEq_bl, goNe_bl, gcMin_ints, gcMinT_ints, gcMax_ints, gcMaxT_ints, intsOf_mapf, blsOf_mapf, gcMin_f, gcMax_f, gcMin_2, gcMax_2, gcSum_ints, gcSum_f, gcBls_f, all_mapid, any_mapid, at_0, at_1, at_2, at_3, at_last, noOwn_nil, noOwn_1, noOwn_2, nof_n, nof_v, nof_b, nof_s, zipD_map, enumD_map, isi_non_int, isi_non_bool, isi_non_str, isi_non_tuple, isi_non_list, isi_non_dict, isi_bl_int, isi_bl_bool, isi_bl_str, isi_bl_tuple, isi_bl_list, isi_bl_dict, isi_int_int, isi_int_bool, isi_int_str, isi_int_tuple, isi_int_list, isi_int_dict, isi_str_int, isi_str_bool, isi_str_str, isi_str_tuple, isi_str_list, isi_str_dict, isi_tup_int, isi_tup_bool, isi_tup_str, isi_tup_tuple, isi_tup_list, isi_tup_dict, isi_lst_int, isi_lst_bool, isi_lst_str, isi_lst_tuple, isi_lst_list, isi_lst_dict, isi_dic_int, isi_dic_bool, isi_dic_str, isi_dic_tuple, isi_dic_list, isi_dic_dict, gcAll, gcAny, goMod, goFdiv, decide_eq_true_eq, Bool.not_eq_true', decide_eq_false_iff_not, ite_not, Bool.and_eq_true, not_false_eq_true, Bool.not_eq_true, List.map_append, Int.zero_add, List.any_cons, List.any_nil, Bool.true_and, Bool.or_false, Bool.xor_false, Bool.false_xor, Bool.true_xor, Bool.not_not, forall_const, Int.toNat_natCast, List.length_map, List.length_append, and_self, ne_eq, List.map_eq_nil_iff, not_true_eq_false, eq_self, goMulI, goSub, goPow, goLe, goGt, goGe, guNeg, gcAbs, goEq_str, goNe_str, goEq_tup, goNe_tup, goEq_lst, goNe_lst, goEq_non, goNe_non, gAndV_k, gOrV_k, gCh_k, blK_bl, ite_bf, reduceCtorEq, Int.reducePow, Int.reduceLT, Int.reduceLE, Int.reduceNeg, sz0, se0, sz1, se1, sz2, se2, sz3, se3, sz4, se4, sz5, se5, sz6, se6, sz7, se7, sz8, se8, sz9, se9, gFld, fldK_ref, gPutF, gPutFM, putFK_ref, gDrf, drfK_ref, gMApp, mlK_ref, gMPop, popK_int, gMIns, ins2K_2, insK_int, gMeth, mthK_ref, gMake, giR3, gFlR1, gFlR2, rg2K_int, gLenSet, lenSetK_lst, lenSetK_tup, gMinD, minDK_lst, giMem, giBA, gMIdx, goTab, gFsort, sortK_lst, sortK_tup])
variable {K : PySem.W.Frag}
theorem is_of {tb : List (Addr × D × Bool)} {a C : Addr} {c : D} {b : Bool} {M : Mem} {Q : D → Mem → Prop} (ma : M a = some (.ho (L2.ExC (.ref C) a))) (h : (C, c, b) ∈ tb) (q : Q (.bl b) M) : gcIsX tb [.ref a, c] M Q := ⟨C, b, ma, h, q⟩
end LW
namespace LW
open PySem PySem.Spec PySem.W PyProof.Rows L2 DL
local macro_rules | `(tactic| wp_walk) => `(tactic| simp only [gSeq, gSet, gRet, gRetN, gNext, gIfS, gDrop, gOwn, gApp, gExt, gForM, gLcM, gCnt, gTryV, gTryE, gxP, gxM, DL.Fr.mute, gIPut, gFrz, frz, gAsg, gPar, gPar3, gAug, gRaise, gRetM, gSetM, gMPut, gMGet, g1, g2, gC, gV, gVw, gB, gAnd, gOr, gNot, gNotV, gIf, DL.gCons, DL.gNil, DL.gTup, DL.gLst, gFl, gFd, gCa, gLenS, gPart, gNoP, gDisp, gPcons, gPnil, gtN, gtTup, gtCons, gtNil, gYes, gFor, gLc, giS, gCallP, gCallM, gScr, entry, aSls, aSl, DL.Fr.set, OM.d, wipeF, wipeS, keyD, List.length_cons, List.length_nil, List.cons_append, List.nil_append, List.append_nil, List.replicate_succ, List.replicate_zero, List.getElem?_cons_zero, List.getElem?_cons_succ, List.getElem?_nil, List.set_cons_zero, List.set_cons_succ, Nat.reduceAdd, Nat.reduceSub, if_true, if_false, ite_true, ite_false, reduceIte, Bool.false_eq_true, Bool.not_true, Bool.not_false, List.all_cons, List.all_nil, Bool.and_true, true_and, and_true, List.map_cons, List.map_nil, gIdx, ixT_ints, intsOf_map, Int.reduceToNat, Option.some.injEq, exists_eq_left', goAdd_int, goAdd_str, goAdd_tup, goAdd_lst, goAddW_int, goAddW_lst, goPlus_int, goI_int, guI_int, gcI1_int, goIx_lst, gcLen_lst, gcTupleS_lst, gcList_lst, goRevA_lst, goIx_tup, gcLen_tup, gcTupleS_tup, gcList_tup, goRevA_tup, gcTuple_lst, goIx_str, gcLen_str, gcInt_int, gcInt_bl, goMulT_tup, goMulL_lst, goIsB_bl, goIsN_non, isN_int, isN_bl, isN_str, isN_tup, isN_lst, isN_dic, isN_ref, isN_ty, isN_non, gTru_k, truK_non, truK_bl, truK_int, truK_lst, truK_tup, truK_str, gFlist_k, lstK_lst, lstK_tup, gsSl_k, slK_lst, slK_tup, slK_str, itsD_k, itsK_lst, itsK_tup, giZip_k, zipK_lst, zipK_tup, giR1_k, ran1K_nat, ran1K_int, giR2_k, ran2K_int, goLtA_int, goLtA_tup, ok_non, eqv_bl, goEq_int, goNe_int, goEq_bl, goNe_bl, gcMin_ints, gcMinT_ints, gcMax_ints, gcMaxT_ints, intsOf_mapf, blsOf_mapf, gcMin_f, gcMax_f, gcMin_2, gcMax_2, gcSum_ints, gcSum_f, gcBls_f, all_mapid, any_mapid, at_0, at_1, at_2, at_3, at_last, noOwn_nil, noOwn_1, noOwn_2, nof_n, nof_v, nof_b, nof_s, zipD_map, enumD_map, isi_non_int, isi_non_bool, isi_non_str, isi_non_tuple, isi_non_list, isi_non_dict, isi_bl_int, isi_bl_bool, isi_bl_str, isi_bl_tuple, isi_bl_list, isi_bl_dict, isi_int_int, isi_int_bool, isi_int_str, isi_int_tuple, isi_int_list, isi_int_dict, isi_str_int, isi_str_bool, isi_str_str, isi_str_tuple, isi_str_list, isi_str_dict, isi_tup_int, isi_tup_bool, isi_tup_str, isi_tup_tuple, isi_tup_list, isi_tup_dict, isi_lst_int, isi_lst_bool, isi_lst_str, isi_lst_tuple, isi_lst_list, isi_lst_dict, isi_dic_int, isi_dic_bool, isi_dic_str, isi_dic_tuple, isi_dic_list, isi_dic_dict, gcAll, gcAny, goMod, goFdiv, decide_eq_true_eq, Bool.not_eq_true', decide_eq_false_iff_not, ite_not, Bool.and_eq_true, not_false_eq_true, Bool.not_eq_true, List.map_append, Int.zero_add, List.any_cons, List.any_nil, Bool.true_and, Bool.or_false, Bool.xor_false, Bool.false_xor, Bool.true_xor, Bool.not_not, forall_const, Int.toNat_natCast, List.length_map, List.length_append, and_self, ne_eq, List.map_eq_nil_iff, not_true_eq_false, eq_self, goMulI, goSub, goPow, goLe, goGt, goGe, guNeg, gcAbs, goEq_str, goNe_str, goEq_tup, goNe_tup, goEq_lst, goNe_lst, goEq_non, goNe_non, gAndV_k, gOrV_k, gCh_k, blK_bl, ite_bf, reduceCtorEq, Int.reducePow, Int.reduceLT, Int.reduceLE, Int.reduceNeg, sz0, se0, sz1, se1, sz2, se2, sz3, se3, sz4, se4, sz5, se5, sz6, se6, sz7, se7, sz8, se8, sz9, se9, gFld, fldK_ref, gPutF, gPutFM, putFK_ref, gDrf, drfK_ref, gMApp, mlK_ref, gMPop, popK_int, gMIns, ins2K_2, insK_int, gMeth, mthK_ref, gMake, giR3, gFlR1, gFlR2, rg2K_int, gLenSet, lenSetK_lst, lenSetK_tup, gMinD, minDK_lst, giMem, giBA, gMIdx, goTab, gFsort, sortK_lst, sortK_tup])
local macro_rules | `(tactic| wp_walk using $ts,*) => `(tactic| simp only [$[$ts:term],*, gSeq, gSet, gRet, gRetN, gNext, gIfS, gDrop, gOwn, gApp, gExt, gForM, gLcM, gCnt, gTryV, gTryE, gxP, gxM, DL.Fr.mute, gIPut, gFrz, frz, gAsg, gPar, gPar3, gAug, gRaise, gRetM, gSetM, gMPut, gMGet, g1, g2, gC, gV, gVw, gB, gAnd, gOr, gNot, gNotV, gIf, DL.gCons, DL.gNil, DL.gTup, DL.gLst, gFl, gFd, gCa, gLenS, gPart, gNoP, gDisp, gPcons, gPnil, gtN, gtTup, gtCons, gtNil, gYes, gFor, gLc, giS, gCallP, gCallM, gScr, entry, aSls, aSl, DL.Fr.set, OM.d, wipeF, wipeS, keyD, List.length_cons, List.length_nil, List.cons_append, List.nil_append, List.append_nil, List.replicate_succ, List.replicate_zero, List.getElem?_cons_zero, List.getElem?_cons_succ, List.getElem?_nil, List.set_cons_zero, List.set_cons_succ, Nat.reduceAdd, Nat.reduceSub, if_true, if_false, ite_true, ite_false, reduceIte, Bool.false_eq_true, Bool.not_true, Bool.not_false, List.all_cons, List.all_nil, Bool.and_true, true_and, and_true, List.map_cons, List.map_nil, gIdx, ixT_ints, intsOf_map, Int.reduceToNat, Option.some.injEq, exists_eq_left', goAdd_int, goAdd_str, goAdd_tup, goAdd_lst, goAddW_int, goAddW_lst, goPlus_int, goI_int, guI_int, gcI1_int, goIx_lst, gcLen_lst, gcTupleS_lst, gcList_lst, goRevA_lst, goIx_tup, gcLen_tup, gcTupleS_tup, gcList_tup, goRevA_tup, gcTuple_lst, goIx_str, gcLen_str, gcInt_int, gcInt_bl, goMulT_tup, goMulL_lst, goIsB_bl, goIsN_non, isN_int, isN_bl, isN_str, isN_tup, isN_lst, isN_dic, isN_ref, isN_ty, isN_non, gTru_k, truK_non, truK_bl, truK_int, truK_lst, truK_tup, truK_str, gFlist_k, lstK_lst, lstK_tup, gsSl_k, slK_lst, slK_tup, slK_str, itsD_k, itsK_lst, itsK_tup, giZip_k, zipK_lst, zipK_tup, giR1_k, ran1K_nat, ran1K_int, giR2_k, ran2K_int, goLtA_int, goLtA_tup, ok_non, eqv_bl, goEq_int, goNe_int, goEq_bl, goNe_bl, gcMin_ints, gcMinT_ints, gcMax_ints, gcMaxT_ints, intsOf_mapf, blsOf_mapf, gcMin_f, gcMax_f, gcMin_2, gcMax_2, gcSum_ints, gcSum_f, gcBls_f, all_mapid, any_mapid, at_0, at_1, at_2, at_3, at_last, noOwn_nil, noOwn_1, noOwn_2, nof_n, nof_v, nof_b, nof_s, zipD_map, enumD_map, isi_non_int, isi_non_bool, isi_non_str, isi_non_tuple, isi_non_list, isi_non_dict, isi_bl_int, isi_bl_bool, isi_bl_str, isi_bl_tuple, isi_bl_list, isi_bl_dict, isi_int_int, isi_int_bool, isi_int_str, isi_int_tuple, isi_int_list, isi_int_dict, isi_str_int, isi_str_bool, isi_str_str, isi_str_tuple, isi_str_list, isi_str_dict, isi_tup_int, isi_tup_bool, isi_tup_str, isi_tup_tuple, isi_tup_list, isi_tup_dict, isi_lst_int, isi_lst_bool, isi_lst_str, isi_lst_tuple, isi_lst_list, isi_lst_dict, isi_dic_int, isi_dic_bool, isi_dic_str, isi_dic_tuple, isi_dic_list, isi_dic_dict, gcAll, gcAny, goMod, goFdiv, decide_eq_true_eq, Bool.not_eq_true', decide_eq_false_iff_not, ite_not, Bool.and_eq_true, not_false_eq_true, Bool.not_eq_true, List.map_append, Int.zero_add, List.any_cons, List.any_nil, Bool.true_and, Bool.or_false, Bool.xor_false, Bool.false_xor, Bool.true_xor, Bool.not_not, forall_const, Int.toNat_natCast, List.length_map, List.length_append, and_self, ne_eq, List.map_eq_nil_iff, not_true_eq_false, eq_self, goMulI, goSub, goPow, goLe, goGt, goGe, guNeg, gcAbs, goEq_str, goNe_str, goEq_tup, goNe_tup, goEq_lst, goNe_lst, goEq_non, goNe_non, gAndV_k, gOrV_k, gCh_k, blK_bl, ite_bf, reduceCtorEq, Int.reducePow, Int.reduceLT, Int.reduceLE, Int.reduceNeg, sz0, se0, sz1, se1, sz2, se2, sz3, se3, sz4, se4, sz5, se5, sz6, se6, sz7, se7, sz8, se8, sz9, se9, gFld, fldK_ref, gPutF, gPutFM, putFK_ref, gDrf, drfK_ref, gMApp, mlK_ref, gMPop, popK_int, gMIns, ins2K_2, insK_int, gMeth, mthK_ref, gMake, giR3, gFlR1, gFlR2, rg2K_int, gLenSet, lenSetK_lst, lenSetK_tup, gMinD, minDK_lst, giMem, giBA, gMIdx, goTab, gFsort, sortK_lst, sortK_tup])
variable {K : PySem.W.Frag}
end LW
namespace LW
open PySem PySem.Spec PySem.W PyProof.Rows L2 DL
local macro_rules | `(tactic| wp_walk) => `(tactic| simp only [gSeq, gSet, gRet, gRetN, gNext, gIfS, gDrop, gOwn, gApp, gExt, gForM, gLcM, gCnt, gTryV, gTryE, gxP, gxM, DL.Fr.mute, gIPut, gFrz, frz, gAsg, gPar, gPar3, gAug, gRaise, gRetM, gSetM, gMPut, gMGet, g1, g2, gC, gV, gVw, gB, gAnd, gOr, gNot, gNotV, gIf, DL.gCons, DL.gNil, DL.gTup, DL.gLst, gFl, gFd, gCa, gLenS, gPart, gNoP, gDisp, gPcons, gPnil, gtN, gtTup, gtCons, gtNil, gYes, gFor, gLc, giS, gCallP, gCallM, gScr, entry, aSls, aSl, DL.Fr.set, OM.d, wipeF, wipeS, keyD, List.length_cons, List.length_nil, List.cons_append, List.nil_append, List.append_nil, List.replicate_succ, List.replicate_zero, List.getElem?_cons_zero, List.getElem?_cons_succ, List.getElem?_nil, List.set_cons_zero, List.set_cons_succ, Nat.reduceAdd, Nat.reduceSub, if_true, if_false, ite_true, ite_false, reduceIte, Bool.false_eq_true, Bool.not_true, Bool.not_false, List.all_cons, List.all_nil, Bool.and_true, true_and, and_true, List.map_cons, List.map_nil, gIdx, ixT_ints, intsOf_map, Int.reduceToNat, Option.some.injEq, exists_eq_left', goAdd_int, goAdd_str, goAdd_tup, goAdd_lst, goAddW_int, goAddW_lst, goPlus_int, goI_int, guI_int, gcI1_int, goIx_lst, gcLen_lst, gcTupleS_lst, gcList_lst, goRevA_lst, goIx_tup, gcLen_tup, gcTupleS_tup, gcList_tup, goRevA_tup, gcTuple_lst, goIx_str, gcLen_str, gcInt_int, gcInt_bl, goMulT_tup, goMulL_lst, goIsB_bl, goIsN_non, isN_int, isN_bl, isN_str, isN_tup, isN_lst, isN_dic, isN_ref, isN_ty, isN_non, gTru_k, truK_non, truK_bl, truK_int, truK_lst, truK_tup, truK_str, gFlist_k, lstK_lst, lstK_tup, gsSl_k, slK_lst, slK_tup, slK_str, itsD_k, itsK_lst, itsK_tup, giZip_k, zipK_lst, zipK_tup, giR1_k, ran1K_nat, ran1K_int, giR2_k, ran2K_int, goLtA_int, goLtA_tup, ok_non, eqv_bl, goEq_int, goNe_int, goEq_bl, goNe_bl, gcMin_ints, gcMinT_ints, gcMax_ints, gcMaxT_ints, intsOf_mapf, blsOf_mapf, gcMin_f, gcMax_f, gcMin_2, gcMax_2, gcSum_ints, gcSum_f, gcBls_f, all_mapid, any_mapid, at_0, at_1, at_2, at_3, at_last, noOwn_nil, noOwn_1, noOwn_2, nof_n, nof_v, nof_b, nof_s, zipD_map, enumD_map, isi_non_int, isi_non_bool, isi_non_str, isi_non_tuple, isi_non_list, isi_non_dict, isi_bl_int, isi_bl_bool, isi_bl_str, isi_bl_tuple, isi_bl_list, isi_bl_dict, isi_int_int, isi_int_bool, isi_int_str, isi_int_tuple, isi_int_list, isi_int_dict, isi_str_int, isi_str_bool, isi_str_str, isi_str_tuple, isi_str_list, isi_str_dict, isi_tup_int, isi_tup_bool, isi_tup_str, isi_tup_tuple, isi_tup_list, isi_tup_dict, isi_lst_int, isi_lst_bool, isi_lst_str, isi_lst_tuple, isi_lst_list, isi_lst_dict, isi_dic_int, isi_dic_bool, isi_dic_str, isi_dic_tuple, isi_dic_list, isi_dic_dict, gcAll, gcAny, goMod, goFdiv, decide_eq_true_eq, Bool.not_eq_true', decide_eq_false_iff_not, ite_not, Bool.and_eq_true, not_false_eq_true, Bool.not_eq_true, List.map_append, Int.zero_add, List.any_cons, List.any_nil, Bool.true_and, Bool.or_false, Bool.xor_false, Bool.false_xor, Bool.true_xor, Bool.not_not, forall_const, Int.toNat_natCast, List.length_map, List.length_append, and_self, ne_eq, List.map_eq_nil_iff, not_true_eq_false, eq_self, goMulI, goSub, goPow, goLe, goGt, goGe, guNeg, gcAbs, goEq_str, goNe_str, goEq_tup, goNe_tup, goEq_lst, goNe_lst, goEq_non, goNe_non, gAndV_k, gOrV_k, gCh_k, blK_bl, ite_bf, reduceCtorEq, Int.reducePow, Int.reduceLT, Int.reduceLE, Int.reduceNeg, sz0, se0, sz1, se1, sz2, se2, sz3, se3, sz4, se4, sz5, se5, sz6, se6, sz7, se7, sz8, se8, sz9, se9, gFld, fldK_ref, gPutF, gPutFM, putFK_ref, gDrf, drfK_ref, gMApp, mlK_ref, gMPop, popK_int, gMIns, ins2K_2, insK_int, gMeth, mthK_ref, gMake, giR3, gFlR1, gFlR2, rg2K_int, gLenSet, lenSetK_lst, lenSetK_tup, gMinD, minDK_lst, giMem, giBA, gMIdx, goTab, gFsort, sortK_lst, sortK_tup])
local macro_rules | `(tactic| wp_walk using $ts,*) => `(tactic| simp only [$[$ts:term],*, gSeq, gSet, gRet, gRetN, gNext, gIfS, gDrop, gOwn, gApp, gExt, gForM, gLcM, gCnt, gTryV, gTryE, gxP, gxM, DL.Fr.mute, gIPut, gFrz, frz, gAsg, gPar, gPar3, gAug, gRaise, gRetM, gSetM, gMPut, gMGet, g1, g2, gC, gV, gVw, gB, gAnd, gOr, gNot, gNotV, gIf, DL.gCons, DL.gNil, DL.gTup, DL.gLst, gFl, gFd, gCa, gLenS, gPart, gNoP, gDisp, gPcons, gPnil, gtN, gtTup, gtCons, gtNil, gYes, gFor, gLc, giS, gCallP, gCallM, gScr, entry, aSls, aSl, DL.Fr.set, OM.d, wipeF, wipeS, keyD, List.length_cons, List.length_nil, List.cons_append, List.nil_append, List.append_nil, List.replicate_succ, List.replicate_zero, List.getElem?_cons_zero, List.getElem?_cons_succ, List.getElem?_nil, List.set_cons_zero, List.set_cons_succ, Nat.reduceAdd, Nat.reduceSub, if_true, if_false, ite_true, ite_false, reduceIte, Bool.false_eq_true, Bool.not_true, Bool.not_false, List.all_cons, List.all_nil, Bool.and_true, true_and, and_true, List.map_cons, List.map_nil, gIdx, ixT_ints, intsOf_map, Int.reduceToNat, Option.some.injEq, exists_eq_left', goAdd_int, goAdd_str, goAdd_tup, goAdd_lst, goAddW_int, goAddW_lst, goPlus_int, goI_int, guI_int, gcI1_int, goIx_lst, gcLen_lst, gcTupleS_lst, gcList_lst, goRevA_lst, goIx_tup, gcLen_tup, gcTupleS_tup, gcList_tup, goRevA_tup, gcTuple_lst, goIx_str, gcLen_str, gcInt_int, gcInt_bl, goMulT_tup, goMulL_lst, goIsB_bl, goIsN_non, isN_int, isN_bl, isN_str, isN_tup, isN_lst, isN_dic, isN_ref, isN_ty, isN_non, gTru_k, truK_non, truK_bl, truK_int, truK_lst, truK_tup, truK_str, gFlist_k, lstK_lst, lstK_tup, gsSl_k, slK_lst, slK_tup, slK_str, itsD_k, itsK_lst, itsK_tup, giZip_k, zipK_lst, zipK_tup, giR1_k, ran1K_nat, ran1K_int, giR2_k, ran2K_int, goLtA_int, goLtA_tup, ok_non, eqv_bl, goEq_int, goNe_int, goEq_bl, goNe_bl, gcMin_ints, gcMinT_ints, gcMax_ints, gcMaxT_ints, intsOf_mapf, blsOf_mapf, gcMin_f, gcMax_f, gcMin_2, gcMax_2, gcSum_ints, gcSum_f, gcBls_f, all_mapid, any_mapid, at_0, at_1, at_2, at_3, at_last, noOwn_nil, noOwn_1, noOwn_2, nof_n, nof_v, nof_b, nof_s, zipD_map, enumD_map, isi_non_int, isi_non_bool, isi_non_str, isi_non_tuple, isi_non_list, isi_non_dict, isi_bl_int, isi_bl_bool, isi_bl_str, isi_bl_tuple, isi_bl_list, isi_bl_dict, isi_int_int, isi_int_bool, isi_int_str, isi_int_tuple, isi_int_list, isi_int_dict, isi_str_int, isi_str_bool, isi_str_str, isi_str_tuple, isi_str_list, isi_str_dict, isi_tup_int, isi_tup_bool, isi_tup_str, isi_tup_tuple, isi_tup_list, isi_tup_dict, isi_lst_int, isi_lst_bool, isi_lst_str, isi_lst_tuple, isi_lst_list, isi_lst_dict, isi_dic_int, isi_dic_bool, isi_dic_str, isi_dic_tuple, isi_dic_list, isi_dic_dict, gcAll, gcAny, goMod, goFdiv, decide_eq_true_eq, Bool.not_eq_true', decide_eq_false_iff_not, ite_not, Bool.and_eq_true, not_false_eq_true, Bool.not_eq_true, List.map_append, Int.zero_add, List.any_cons, List.any_nil, Bool.true_and, Bool.or_false, Bool.xor_false, Bool.false_xor, Bool.true_xor, Bool.not_not, forall_const, Int.toNat_natCast, List.length_map, List.length_append, and_self, ne_eq, List.map_eq_nil_iff, not_true_eq_false, eq_self, goMulI, goSub, goPow, goLe, goGt, goGe, guNeg, gcAbs, goEq_str, goNe_str, goEq_tup, goNe_tup, goEq_lst, goNe_lst, goEq_non, goNe_non, gAndV_k, gOrV_k, gCh_k, blK_bl, ite_bf, reduceCtorEq, Int.reducePow, Int.reduceLT, Int.reduceLE, Int.reduceNeg, sz0, se0, sz1, se1, sz2, se2, sz3, se3, sz4, se4, sz5, se5, sz6, se6, sz7, se7, sz8, se8, sz9, se9, gFld, fldK_ref, gPutF, gPutFM, putFK_ref, gDrf, drfK_ref, gMApp, mlK_ref, gMPop, popK_int, gMIns, ins2K_2, insK_int, gMeth, mthK_ref, gMake, giR3, gFlR1, gFlR2, rg2K_int, gLenSet, lenSetK_lst, lenSetK_tup, gMinD, minDK_lst, giMem, giBA, gMIdx, goTab, gFsort, sortK_lst, sortK_tup])
end LW
namespace LW
open PySem PySem.Spec PySem.W PyProof.Rows L2 DL
local macro_rules | `(tactic| wp_walk) => `(tactic| simp only [gSeq, gSet, gRet, gRetN, gNext, gIfS, gDrop, gOwn, gApp, gExt, gForM, gLcM, gCnt, gTryV, gTryE, gxP, gxM, DL.Fr.mute, gIPut, gFrz, frz, gAsg, gPar, gPar3, gAug, gRaise, gRetM, gSetM, gMPut, gMGet, g1, g2, gC, gV, gVw, gB, gAnd, gOr, gNot, gNotV, gIf, DL.gCons, DL.gNil, DL.gTup, DL.gLst, gFl, gFd, gCa, gLenS, gPart, gNoP, gDisp, gPcons, gPnil, gtN, gtTup, gtCons, gtNil, gYes, gFor, gLc, giS, gCallP, gCallM, gScr, entry, aSls, aSl, DL.Fr.set, OM.d, wipeF, wipeS, keyD, List.length_cons, List.length_nil, List.cons_append, List.nil_append, List.append_nil, List.replicate_succ, List.replicate_zero, List.getElem?_cons_zero, List.getElem?_cons_succ, List.getElem?_nil, List.set_cons_zero, List.set_cons_succ, Nat.reduceAdd, Nat.reduceSub, if_true, if_false, ite_true, ite_false, reduceIte, Bool.false_eq_true, Bool.not_true, Bool.not_false, List.all_cons, List.all_nil, Bool.and_true, true_and, and_true, List.map_cons, List.map_nil, gIdx, ixT_ints, intsOf_map, Int.reduceToNat, Option.some.injEq, exists_eq_left', goAdd_int, goAdd_str, goAdd_tup, goAdd_lst, goAddW_int, goAddW_lst, goPlus_int, goI_int, guI_int, gcI1_int, goIx_lst, gcLen_lst, gcTupleS_lst, gcList_lst, goRevA_lst, goIx_tup, gcLen_tup, gcTupleS_tup, gcList_tup, goRevA_tup, gcTuple_lst, goIx_str, gcLen_str, gcInt_int, gcInt_bl, goMulT_tup, goMulL_lst, goIsB_bl, goIsN_non, isN_int, isN_bl, isN_str, isN_tup, isN_lst, isN_dic, isN_ref, isN_ty, isN_non, gTru_k, truK_non, truK_bl, truK_int, truK_lst, truK_tup, truK_str, gFlist_k, lstK_lst, lstK_tup, gsSl_k, slK_lst, slK_tup, slK_str, itsD_k, itsK_lst, itsK_tup, giZip_k, zipK_lst, zipK_tup, giR1_k, ran1K_nat, ran1K_int, giR2_k, ran2K_int, goLtA_int, goLtA_tup, ok_non, eqv_bl, goEq_int, goNe_int, goEq_bl, goNe_bl, gcMin_ints, gcMinT_ints, gcMax_ints, gcMaxT_ints, intsOf_mapf, blsOf_mapf, gcMin_f, gcMax_f, gcMin_2, gcMax_2, gcSum_ints, gcSum_f, gcBls_f, all_mapid, any_mapid, at_0, at_1, at_2, at_3, at_last, noOwn_nil, noOwn_1, noOwn_2, nof_n, nof_v, nof_b, nof_s, zipD_map, enumD_map, isi_non_int, isi_non_bool, isi_non_str, isi_non_tuple, isi_non_list, isi_non_dict, isi_bl_int, isi_bl_bool, isi_bl_str, isi_bl_tuple, isi_bl_list, isi_bl_dict, isi_int_int, isi_int_bool, isi_int_str, isi_int_tuple, isi_int_list, isi_int_dict, isi_str_int, isi_str_bool, isi_str_str, isi_str_tuple, isi_str_list, isi_str_dict, isi_tup_int, isi_tup_bool, isi_tup_str, isi_tup_tuple, isi_tup_list, isi_tup_dict, isi_lst_int, isi_lst_bool, isi_lst_str, isi_lst_tuple, isi_lst_list, isi_lst_dict, isi_dic_int, isi_dic_bool, isi_dic_str, isi_dic_tuple, isi_dic_list, isi_dic_dict, gcAll, gcAny, goMod, goFdiv, decide_eq_true_eq, Bool.not_eq_true', decide_eq_false_iff_not, ite_not, Bool.and_eq_true, not_false_eq_true, Bool.not_eq_true, List.map_append, Int.zero_add, List.any_cons, List.any_nil, Bool.true_and, Bool.or_false, Bool.xor_false, Bool.false_xor, Bool.true_xor, Bool.not_not, forall_const, Int.toNat_natCast, List.length_map, List.length_append, and_self, ne_eq, List.map_eq_nil_iff, not_true_eq_false, eq_self, goMulI, goSub, goPow, goLe, goGt, goGe, guNeg, gcAbs, goEq_str, goNe_str, goEq_tup, goNe_tup, goEq_lst, goNe_lst, goEq_non, goNe_non, gAndV_k, gOrV_k, gCh_k, blK_bl, ite_bf, reduceCtorEq, Int.reducePow, Int.reduceLT, Int.reduceLE, Int.reduceNeg, sz0, se0, sz1, se1, sz2, se2, sz3, se3, sz4, se4, sz5, se5, sz6, se6, sz7, se7, sz8, se8, sz9, se9, gFld, fldK_ref, gPutF, gPutFM, putFK_ref, gDrf, drfK_ref, gMApp, mlK_ref, gMPop, popK_int, gMIns, ins2K_2, insK_int, gMeth, mthK_ref, gMake, giR3, gFlR1, gFlR2, rg2K_int, gLenSet, lenSetK_lst, lenSetK_tup, gMinD, minDK_lst, giMem, giBA, gMIdx, goTab, gFsort, sortK_lst, sortK_tup])
local macro_rules | `(tactic| wp_walk using $ts,*) => `(tactic| simp only [$[$ts:term],*, gSeq, gSet, gRet, gRetN, gNext, gIfS, gDrop, gOwn, gApp, gExt, gForM, gLcM, gCnt, gTryV, gTryE, gxP, gxM, DL.Fr.mute, gIPut, gFrz, frz, gAsg, gPar, gPar3, gAug, gRaise, gRetM, gSetM, gMPut, gMGet, g1, g2, gC, gV, gVw, gB, gAnd, gOr, gNot, gNotV, gIf, DL.gCons, DL.gNil, DL.gTup, DL.gLst, gFl, gFd, gCa, gLenS, gPart, gNoP, gDisp, gPcons, gPnil, gtN, gtTup, gtCons, gtNil, gYes, gFor, gLc, giS, gCallP, gCallM, gScr, entry, aSls, aSl, DL.Fr.set, OM.d, wipeF, wipeS, keyD, List.length_cons, List.length_nil, List.cons_append, List.nil_append, List.append_nil, List.replicate_succ, List.replicate_zero, List.getElem?_cons_zero, List.getElem?_cons_succ, List.getElem?_nil, List.set_cons_zero, List.set_cons_succ, Nat.reduceAdd, Nat.reduceSub, if_true, if_false, ite_true, ite_false, reduceIte, Bool.false_eq_true, Bool.not_true, Bool.not_false, List.all_cons, List.all_nil, Bool.and_true, true_and, and_true, List.map_cons, List.map_nil, gIdx, ixT_ints, intsOf_map, Int.reduceToNat, Option.some.injEq, exists_eq_left', goAdd_int, goAdd_str, goAdd_tup, goAdd_lst, goAddW_int, goAddW_lst, goPlus_int, goI_int, guI_int, gcI1_int, goIx_lst, gcLen_lst, gcTupleS_lst, gcList_lst, goRevA_lst, goIx_tup, gcLen_tup, gcTupleS_tup, gcList_tup, goRevA_tup, gcTuple_lst, goIx_str, gcLen_str, gcInt_int, gcInt_bl, goMulT_tup, goMulL_lst, goIsB_bl, goIsN_non, isN_int, isN_bl, isN_str, isN_tup, isN_lst, isN_dic, isN_ref, isN_ty, isN_non, gTru_k, truK_non, truK_bl, truK_int, truK_lst, truK_tup, truK_str, gFlist_k, lstK_lst, lstK_tup, gsSl_k, slK_lst, slK_tup, slK_str, itsD_k, itsK_lst, itsK_tup, giZip_k, zipK_lst, zipK_tup, giR1_k, ran1K_nat, ran1K_int, giR2_k, ran2K_int, goLtA_int, goLtA_tup, ok_non, eqv_bl, goEq_int, goNe_int, goEq_bl, goNe_bl, gcMin_ints, gcMinT_ints, gcMax_ints, gcMaxT_ints, intsOf_mapf, blsOf_mapf, gcMin_f, gcMax_f, gcMin_2, gcMax_2, gcSum_ints, gcSum_f, gcBls_f, all_mapid, any_mapid, at_0, at_1, at_2, at_3, at_last, noOwn_nil, noOwn_1, noOwn_2, nof_n, nof_v, nof_b, nof_s, zipD_map, enumD_map, isi_non_int, isi_non_bool, isi_non_str, isi_non_tuple, isi_non_list, isi_non_dict, isi_bl_int, isi_bl_bool, isi_bl_str, isi_bl_tuple, isi_bl_list, isi_bl_dict, isi_int_int, isi_int_bool, isi_int_str, isi_int_tuple, isi_int_list, isi_int_dict, isi_str_int, isi_str_bool, isi_str_str, isi_str_tuple, isi_str_list, isi_str_dict, isi_tup_int, isi_tup_bool, isi_tup_str, isi_tup_tuple, isi_tup_list, isi_tup_dict, isi_lst_int, isi_lst_bool, isi_lst_str, isi_lst_tuple, isi_lst_list, isi_lst_dict, isi_dic_int, isi_dic_bool, isi_dic_str, isi_dic_tuple, isi_dic_list, isi_dic_dict, gcAll, gcAny, goMod, goFdiv, decide_eq_true_eq, Bool.not_eq_true', decide_eq_false_iff_not, ite_not, Bool.and_eq_true, not_false_eq_true, Bool.not_eq_true, List.map_append, Int.zero_add, List.any_cons, List.any_nil, Bool.true_and, Bool.or_false, Bool.xor_false, Bool.false_xor, Bool.true_xor, Bool.not_not, forall_const, Int.toNat_natCast, List.length_map, List.length_append, and_self, ne_eq, List.map_eq_nil_iff, not_true_eq_false, eq_self, goMulI, goSub, goPow, goLe, goGt, goGe, guNeg, gcAbs, goEq_str, goNe_str, goEq_tup, goNe_tup, goEq_lst, goNe_lst, goEq_non, goNe_non, gAndV_k, gOrV_k, gCh_k, blK_bl, ite_bf, reduceCtorEq, Int.reducePow, Int.reduceLT, Int.reduceLE, Int.reduceNeg, sz0, se0, sz1, se1, sz2, se2, sz3, se3, sz4, se4, sz5, se5, sz6, se6, sz7, se7, sz8, se8, sz9, se9, gFld, fldK_ref, gPutF, gPutFM, putFK_ref, gDrf, drfK_ref, gMApp, mlK_ref, gMPop, popK_int, gMIns, ins2K_2, insK_int, gMeth, mthK_ref, gMake, giR3, gFlR1, gFlR2, rg2K_int, gLenSet, lenSetK_lst, lenSetK_tup, gMinD, minDK_lst, giMem, giBA, gMIdx, goTab, gFsort, sortK_lst, sortK_tup])
variable {K : PySem.W.Frag}
end LW
namespace LW
open PySem PySem.Spec PySem.W PyProof.Rows L2 DL
local macro_rules | `(tactic| wp_walk) => `(tactic| simp only [gSeq, gSet, gRet, gRetN, gNext, gIfS, gDrop, gOwn, gApp, gExt, gForM, gLcM, gCnt, gTryV, gTryE, gxP, gxM, DL.Fr.mute, gIPut, gFrz, frz, gAsg, gPar, gPar3, gAug, gRaise, gRetM, gSetM, gMPut, gMGet, g1, g2, gC, gV, gVw, gB, gAnd, gOr, gNot, gNotV, gIf, DL.gCons, DL.gNil, DL.gTup, DL.gLst, gFl, gFd, gCa, gLenS, gPart, gNoP, gDisp, gPcons, gPnil, gtN, gtTup, gtCons, gtNil, gYes, gFor, gLc, giS, gCallP, gCallM, gScr, entry, aSls, aSl, DL.Fr.set, OM.d, wipeF, wipeS, keyD, List.length_cons, List.length_nil, List.cons_append, List.nil_append, List.append_nil, List.replicate_succ, List.replicate_zero, List.getElem?_cons_zero, List.getElem?_cons_succ, List.getElem?_nil, List.set_cons_zero, List.set_cons_succ, Nat.reduceAdd, Nat.reduceSub, if_true, if_false, ite_true, ite_false, reduceIte, Bool.false_eq_true, Bool.not_true, Bool.not_false, List.all_cons, List.all_nil, Bool.and_true, true_and, and_true, List.map_cons, List.map_nil, gIdx, ixT_ints, intsOf_map, Int.reduceToNat, Option.some.injEq, exists_eq_left', goAdd_int, goAdd_str, goAdd_tup, goAdd_lst, goAddW_int, goAddW_lst, goPlus_int, goI_int, guI_int, gcI1_int, goIx_lst, gcLen_lst, gcTupleS_lst, gcList_lst, goRevA_lst, goIx_tup, gcLen_tup, gcTupleS_tup, gcList_tup, goRevA_tup, gcTuple_lst, goIx_str, gcLen_str, gcInt_int, gcInt_bl, goMulT_tup, goMulL_lst, goIsB_bl, goIsN_non, isN_int, isN_bl, isN_str, isN_tup, isN_lst, isN_dic, isN_ref, isN_ty, isN_non, gTru_k, truK_non, truK_bl, truK_int, truK_lst, truK_tup, truK_str, gFlist_k, lstK_lst, lstK_tup, gsSl_k, slK_lst, slK_tup, slK_str, itsD_k, itsK_lst, itsK_tup, giZip_k, zipK_lst, zipK_tup, giR1_k, ran1K_nat, ran1K_int, giR2_k, ran2K_int, goLtA_int, goLtA_tup, ok_non, eqv_bl, goEq_int, goNe_int, goEq_bl, goNe_bl, gcMin_ints, gcMinT_ints, gcMax_ints, gcMaxT_ints, intsOf_mapf, blsOf_mapf, gcMin_f, gcMax_f, gcMin_2, gcMax_2, gcSum_ints, gcSum_f, gcBls_f, all_mapid, any_mapid, at_0, at_1, at_2, at_3, at_last, noOwn_nil, noOwn_1, noOwn_2, nof_n, nof_v, nof_b, nof_s, zipD_map, enumD_map, isi_non_int, isi_non_bool, isi_non_str, isi_non_tuple, isi_non_list, isi_non_dict, isi_bl_int, isi_bl_bool, isi_bl_str, isi_bl_tuple, isi_bl_list, isi_bl_dict, isi_int_int, isi_int_bool, isi_int_str, isi_int_tuple, isi_int_list, isi_int_dict, isi_str_int, isi_str_bool, isi_str_str, isi_str_tuple, isi_str_list, isi_str_dict, isi_tup_int, isi_tup_bool, isi_tup_str, isi_tup_tuple, isi_tup_list, isi_tup_dict, isi_lst_int, isi_lst_bool, isi_lst_str, isi_lst_tuple, isi_lst_list, isi_lst_dict, isi_dic_int, isi_dic_bool, isi_dic_str, isi_dic_tuple, isi_dic_list, isi_dic_dict, gcAll, gcAny, goMod, goFdiv, decide_eq_true_eq, Bool.not_eq_true', decide_eq_false_iff_not, ite_not, Bool.and_eq_true, not_false_eq_true, Bool.not_eq_true, List.map_append, Int.zero_add, List.any_cons, List.any_nil, Bool.true_and, Bool.or_false, Bool.xor_false, Bool.false_xor, Bool.true_xor, Bool.not_not, forall_const, Int.toNat_natCast, List.length_map, List.length_append, and_self, ne_eq, List.map_eq_nil_iff, not_true_eq_false, eq_self, goMulI, goSub, goPow, goLe, goGt, goGe, guNeg, gcAbs, goEq_str, goNe_str, goEq_tup, goNe_tup, goEq_lst, goNe_lst, goEq_non, goNe_non, gAndV_k, gOrV_k, gCh_k, blK_bl, ite_bf, reduceCtorEq, Int.reducePow, Int.reduceLT, Int.reduceLE, Int.reduceNeg, sz0, se0, sz1, se1, sz2, se2, sz3, se3, sz4, se4, sz5, se5, sz6, se6, sz7, se7, sz8, se8, sz9, se9, gFld, fldK_ref, gPutF, gPutFM, putFK_ref, gDrf, drfK_ref, gMApp, mlK_ref, gMPop, popK_int, gMIns, ins2K_2, insK_int, gMeth, mthK_ref, gMake, giR3, gFlR1, gFlR2, rg2K_int, gLenSet, lenSetK_lst, lenSetK_tup, gMinD, minDK_lst, giMem, giBA, gMIdx, goTab, gFsort, sortK_lst, sortK_tup, gStep, stepK_lst, gAppM, gDictV, gFdict, dictK_lst, dictK_tup, dictK_dic, gDic0, gFdic0, gDGet1, gDGet2, dicK_dic, gOPut, gOPop, giKeys, gPconsI, gDispV, goIx_dic, gcLen_dic, lstK_dic, truK_dic, getK, dgetK, gOIns, ins2K_2, insK_int, gCallL, gAct, gxAct, gLamT, lamS, lam1, entryL, gxV, gItemsT, gFvals, giItems, gFsortD, sortDK_dic, kvD])
local macro_rules | `(tactic| wp_walk using $ts,*) => `(tactic| simp only [$[$ts:term],*, gSeq, gSet, gRet, gRetN, gNext, gIfS, gDrop, gOwn, gApp, gExt, gForM, gLcM, gCnt, gTryV, gTryE, gxP, gxM, DL.Fr.mute, gIPut, gFrz, frz, gAsg, gPar, gPar3, gAug, gRaise, gRetM, gSetM, gMPut, gMGet, g1, g2, gC, gV, gVw, gB, gAnd, gOr, gNot, gNotV, gIf, DL.gCons, DL.gNil, DL.gTup, DL.gLst, gFl, gFd, gCa, gLenS, gPart, gNoP, gDisp, gPcons, gPnil, gtN, gtTup, gtCons, gtNil, gYes, gFor, gLc, giS, gCallP, gCallM, gScr, entry, aSls, aSl, DL.Fr.set, OM.d, wipeF, wipeS, keyD, List.length_cons, List.length_nil, List.cons_append, List.nil_append, List.append_nil, List.replicate_succ, List.replicate_zero, List.getElem?_cons_zero, List.getElem?_cons_succ, List.getElem?_nil, List.set_cons_zero, List.set_cons_succ, Nat.reduceAdd, Nat.reduceSub, if_true, if_false, ite_true, ite_false, reduceIte, Bool.false_eq_true, Bool.not_true, Bool.not_false, List.all_cons, List.all_nil, Bool.and_true, true_and, and_true, List.map_cons, List.map_nil, gIdx, ixT_ints, intsOf_map, Int.reduceToNat, Option.some.injEq, exists_eq_left', goAdd_int, goAdd_str, goAdd_tup, goAdd_lst, goAddW_int, goAddW_lst, goPlus_int, goI_int, guI_int, gcI1_int, goIx_lst, gcLen_lst, gcTupleS_lst, gcList_lst, goRevA_lst, goIx_tup, gcLen_tup, gcTupleS_tup, gcList_tup, goRevA_tup, gcTuple_lst, goIx_str, gcLen_str, gcInt_int, gcInt_bl, goMulT_tup, goMulL_lst, goIsB_bl, goIsN_non, isN_int, isN_bl, isN_str, isN_tup, isN_lst, isN_dic, isN_ref, isN_ty, isN_non, gTru_k, truK_non, truK_bl, truK_int, truK_lst, truK_tup, truK_str, gFlist_k, lstK_lst, lstK_tup, gsSl_k, slK_lst, slK_tup, slK_str, itsD_k, itsK_lst, itsK_tup, giZip_k, zipK_lst, zipK_tup, giR1_k, ran1K_nat, ran1K_int, giR2_k, ran2K_int, goLtA_int, goLtA_tup, ok_non, eqv_bl, goEq_int, goNe_int, goEq_bl, goNe_bl, gcMin_ints, gcMinT_ints, gcMax_ints, gcMaxT_ints, intsOf_mapf, blsOf_mapf, gcMin_f, gcMax_f, gcMin_2, gcMax_2, gcSum_ints, gcSum_f, gcBls_f, all_mapid, any_mapid, at_0, at_1, at_2, at_3, at_last, noOwn_nil, noOwn_1, noOwn_2, nof_n, nof_v, nof_b, nof_s, zipD_map, enumD_map, isi_non_int, isi_non_bool, isi_non_str, isi_non_tuple, isi_non_list, isi_non_dict, isi_bl_int, isi_bl_bool, isi_bl_str, isi_bl_tuple, isi_bl_list, isi_bl_dict, isi_int_int, isi_int_bool, isi_int_str, isi_int_tuple, isi_int_list, isi_int_dict, isi_str_int, isi_str_bool, isi_str_str, isi_str_tuple, isi_str_list, isi_str_dict, isi_tup_int, isi_tup_bool, isi_tup_str, isi_tup_tuple, isi_tup_list, isi_tup_dict, isi_lst_int, isi_lst_bool, isi_lst_str, isi_lst_tuple, isi_lst_list, isi_lst_dict, isi_dic_int, isi_dic_bool, isi_dic_str, isi_dic_tuple, isi_dic_list, isi_dic_dict, gcAll, gcAny, goMod, goFdiv, decide_eq_true_eq, Bool.not_eq_true', decide_eq_false_iff_not, ite_not, Bool.and_eq_true, not_false_eq_true, Bool.not_eq_true, List.map_append, Int.zero_add, List.any_cons, List.any_nil, Bool.true_and, Bool.or_false, Bool.xor_false, Bool.false_xor, Bool.true_xor, Bool.not_not, forall_const, Int.toNat_natCast, List.length_map, List.length_append, and_self, ne_eq, List.map_eq_nil_iff, not_true_eq_false, eq_self, goMulI, goSub, goPow, goLe, goGt, goGe, guNeg, gcAbs, goEq_str, goNe_str, goEq_tup, goNe_tup, goEq_lst, goNe_lst, goEq_non, goNe_non, gAndV_k, gOrV_k, gCh_k, blK_bl, ite_bf, reduceCtorEq, Int.reducePow, Int.reduceLT, Int.reduceLE, Int.reduceNeg, sz0, se0, sz1, se1, sz2, se2, sz3, se3, sz4, se4, sz5, se5, sz6, se6, sz7, se7, sz8, se8, sz9, se9, gFld, fldK_ref, gPutF, gPutFM, putFK_ref, gDrf, drfK_ref, gMApp, mlK_ref, gMPop, popK_int, gMIns, ins2K_2, insK_int, gMeth, mthK_ref, gMake, giR3, gFlR1, gFlR2, rg2K_int, gLenSet, lenSetK_lst, lenSetK_tup, gMinD, minDK_lst, giMem, giBA, gMIdx, goTab, gFsort, sortK_lst, sortK_tup, gStep, stepK_lst, gAppM, gDictV, gFdict, dictK_lst, dictK_tup, dictK_dic, gDic0, gFdic0, gDGet1, gDGet2, dicK_dic, gOPut, gOPop, giKeys, gPconsI, gDispV, goIx_dic, gcLen_dic, lstK_dic, truK_dic, getK, dgetK, gOIns, ins2K_2, insK_int, gCallL, gAct, gxAct, gLamT, lamS, lam1, entryL, gxV, gItemsT, gFvals, giItems, gFsortD, sortDK_dic, kvD])
variable {K : PySem.W.Frag}
theorem da_cut {xs : List D} (h : D.daL xs = true) (lo hi : Option Int) : D.daL (DL.cutD xs lo hi) = true := D.daL_of fun d hd => D.daL_mem h d (List.mem_of_mem_drop (List.mem_of_mem_take hd))
theorem len_cut (xs : List D) (lo hi : Option Int) : (DL.cutD xs lo hi).length ≤ xs.length := by
  unfold DL.cutD
  rw [List.length_take, List.length_drop]
  omega
def thingOf : D → Option Int
  | .int x => if isThing (.int x) = true then some x else none
  | _ => none
def chkB (so : So) (ks : List Int) (x : Int) : Bool := match so with
  | .row => true
  | _ => decide (x ∉ ks)
def stepB (so : So) (ks : List Int) (d : D) : Option (List Int) := match thingOf d with
  | some x => if chkB so ks x = true then some (ks ++ [x]) else none
  | none => none
/-- what is asked about of a thing there -/
def keyS (so : So) (d : D) : Option D := match so with
  | .map => match d with
    | .tup [a, b] => if isThing b = true then some a else none
    | _ => none
  | _ => some d
def goB (so : So) : List Int → List D → Bool
  | _, [] => true
  | ks, d :: r => match keyS so d with
    | none => false
    | some e => match stepB so ks e with
      | none => false
      | some ks' => goB so ks' r
theorem thingOf_some {d : D} {x : Int} (h : thingOf d = some x) : d = .int x ∧ thingN x := by
  unfold thingOf at h
  split at h
  · split at h
    · rename_i x h2
      cases h
      have h3 : (decide (0 ≤ x) && decide (x ≤ 999999)) = true := h2
      rw [Bool.and_eq_true, decide_eq_true_eq, decide_eq_true_eq] at h3
      exact ⟨rfl, h3⟩
    · cases h
  · cases h
theorem thing_is {x : Int} (h : thingN x) : isThing (.int x) = true := by
  show (decide (0 ≤ x) && decide (x ≤ 999999)) = true
  rw [decide_eq_true h.1, decide_eq_true h.2]; rfl
theorem thingOf_int {x : Int} (h : thingN x) : thingOf (.int x) = some x := if_pos (thing_is h)
theorem isThing_none {d : D} (h : thingOf d = none) : isThing d = false := by
  cases z : isThing d with
  | false => rfl
  | true =>
    obtain ⟨x, rfl, hx⟩ := isThing_int z
    rw [thingOf_int hx] at h
    cases h
theorem goB_set : ∀ (xs : List D) (ks : List Int), ks.Nodup → (goB .set ks xs = true ↔ ∃ ns : List Int, xs = ns.map .int ∧ (∀ n ∈ ns, thingN n) ∧ (ks ++ ns).Nodup)
  | [], ks, hk => ⟨fun _ => ⟨[], rfl, by simp, by simpa using hk⟩, fun _ => rfl⟩
  | d :: r, ks, hk => by
    show (match stepB .set ks d with
      | none => false
      | some ks' => goB .set ks' r) = true ↔ _
    unfold stepB
    cases e : thingOf d with
    | none =>
      refine ⟨fun z => (by cases z), fun ⟨ns, h1, h2, _⟩ => ?_⟩
      cases ns with
      | nil => cases h1
      | cons n ns =>
        obtain ⟨rfl, _⟩ := List.cons.inj h1
        rw [thingOf_int (h2 n (List.mem_cons_self ..))] at e
        cases e
    | some x =>
      obtain ⟨rfl, hx⟩ := thingOf_some e
      show (match if decide (x ∉ ks) = true then some (ks ++ [x]) else none with
        | none => false
        | some ks' => goB .set ks' r) = true ↔ _
      by_cases hm : x ∈ ks
      · rw [if_neg (by simpa using hm)]
        refine ⟨fun z => (by cases z), fun ⟨ns, h1, h2, h3⟩ => ?_⟩
        cases ns with
        | nil => cases h1
        | cons n ns =>
          obtain ⟨e1, _⟩ := List.cons.inj h1
          cases e1
          exact absurd rfl ((List.nodup_append.mp h3).2.2 x hm x (List.mem_cons_self ..))
      · rw [if_pos (by simpa using hm)]
        have hk2 : (ks ++ [x]).Nodup := List.nodup_append.mpr ⟨hk, by simp, fun a ha b hb e => hm (by rw [List.mem_singleton.mp hb] at e; rw [← e]; exact ha)⟩
        show goB .set (ks ++ [x]) r = true ↔ _
        rw [goB_set r _ hk2]
        constructor
        · rintro ⟨ns, rfl, h2, h3⟩
          exact ⟨x :: ns, rfl, fun n hn => by
            rcases List.mem_cons.mp hn with rfl | hn
            · exact hx
            · exact h2 n hn, by rw [List.append_assoc] at h3; exact h3⟩
        · rintro ⟨ns, h1, h2, h3⟩
          cases ns with
          | nil => cases h1
          | cons n ns =>
            obtain ⟨e1, e2⟩ := List.cons.inj h1
            cases e1
            exact ⟨ns, e2, fun n hn => h2 n (List.mem_cons_of_mem _ hn), by rw [List.append_assoc]; exact h3⟩
theorem goB_row : ∀ (xs : List D) (ks : List Int), (goB .row ks xs = true ↔ ∃ ns : List Int, xs = ns.map .int ∧ ∀ n ∈ ns, thingN n)
  | [], ks => ⟨fun _ => ⟨[], rfl, by simp⟩, fun _ => rfl⟩
  | d :: r, ks => by
    show (match stepB .row ks d with
      | none => false
      | some ks' => goB .row ks' r) = true ↔ _
    unfold stepB
    cases e : thingOf d with
    | none =>
      refine ⟨fun z => (by cases z), fun ⟨ns, h1, h2⟩ => ?_⟩
      cases ns with
      | nil => cases h1
      | cons n ns =>
        obtain ⟨rfl, _⟩ := List.cons.inj h1
        rw [thingOf_int (h2 n (List.mem_cons_self ..))] at e
        cases e
    | some x =>
      obtain ⟨rfl, hx⟩ := thingOf_some e
      show goB .row (ks ++ [x]) r = true ↔ _
      rw [goB_row r _]
      constructor
      · rintro ⟨ns, rfl, h2⟩
        exact ⟨x :: ns, rfl, fun n hn => by
          rcases List.mem_cons.mp hn with rfl | hn
          · exact hx
          · exact h2 n hn⟩
      · rintro ⟨ns, h1, h2⟩
        cases ns with
        | nil => cases h1
        | cons n ns =>
          obtain ⟨e1, e2⟩ := List.cons.inj h1
          exact ⟨ns, e2, fun n hn => h2 n (List.mem_cons_of_mem _ hn)⟩
theorem keyS_map {d e : D} (h : keyS .map d = some e) : ∃ b, d = .tup [e, b] ∧ isThing b = true := by
  unfold keyS at h
  simp only at h
  split at h
  · split at h
    · cases h
      exact ⟨_, rfl, by assumption⟩
    · cases h
  · cases h
theorem goB_map : ∀ (xs : List D) (ks : List Int), ks.Nodup → (goB .map ks xs = true ↔ ∃ ps : List (Int × Int), xs = ps.map pI ∧ (∀ p ∈ ps, thingN p.1 ∧ thingN p.2) ∧ (ks ++ ps.map (·.1)).Nodup)
  | [], ks, hk => ⟨fun _ => ⟨[], rfl, by simp, by simpa using hk⟩, fun _ => rfl⟩
  | d :: r, ks, hk => by
    show (match keyS .map d with
      | none => false
      | some e => match stepB .map ks e with
        | none => false
        | some ks' => goB .map ks' r) = true ↔ _
    cases ek : keyS .map d with
    | none =>
      refine ⟨fun z => (by cases z), fun ⟨ps, h1, h2, _⟩ => ?_⟩
      cases ps with
      | nil => cases h1
      | cons p ps =>
        obtain ⟨rfl, _⟩ := List.cons.inj h1
        have : keyS .map (pI p) = some (.int p.1) := if_pos (thing_is (h2 p (List.mem_cons_self ..)).2)
        rw [this] at ek
        cases ek
    | some e =>
      obtain ⟨b, rfl, hb⟩ := keyS_map ek
      obtain ⟨y, rfl, hy⟩ := isThing_int hb
      show (match stepB .map ks e with
        | none => false
        | some ks' => goB .map ks' r) = true ↔ _
      unfold stepB
      cases et : thingOf e with
      | none =>
        refine ⟨fun z => (by cases z), fun ⟨ps, h1, h2, _⟩ => ?_⟩
        cases ps with
        | nil => cases h1
        | cons p ps =>
          have e1 := (List.cons.inj h1).1
          have e2 : e = .int p.1 := (List.cons.inj (D.tup.inj e1)).1
          rw [e2, thingOf_int (h2 p (List.mem_cons_self ..)).1] at et
          cases et
      | some x =>
        obtain ⟨rfl, hx⟩ := thingOf_some et
        show (match if decide (x ∉ ks) = true then some (ks ++ [x]) else none with
          | none => false
          | some ks' => goB .map ks' r) = true ↔ _
        by_cases hm : x ∈ ks
        · rw [if_neg (by simpa using hm)]
          refine ⟨fun z => (by cases z), fun ⟨ps, h1, h2, h3⟩ => ?_⟩
          cases ps with
          | nil => cases h1
          | cons p ps =>
            have e1 : D.int x = .int p.1 := (List.cons.inj (D.tup.inj (List.cons.inj h1).1)).1
            cases e1
            exact absurd rfl ((List.nodup_append.mp h3).2.2 p.1 hm p.1 (List.mem_cons_self ..))
        · rw [if_pos (by simpa using hm)]
          have hk2 : (ks ++ [x]).Nodup := List.nodup_append.mpr ⟨hk, by simp, fun a ha b hb e => hm (by rw [List.mem_singleton.mp hb] at e; rw [← e]; exact ha)⟩
          show goB .map (ks ++ [x]) r = true ↔ _
          rw [goB_map r _ hk2]
          constructor
          · rintro ⟨ps, rfl, h2, h3⟩
            exact ⟨(x, y) :: ps, rfl, fun p hp => by
              rcases List.mem_cons.mp hp with rfl | hp
              · exact ⟨hx, hy⟩
              · exact h2 p hp, by rw [List.append_assoc] at h3; exact h3⟩
          · rintro ⟨ps, h1, h2, h3⟩
            cases ps with
            | nil => cases h1
            | cons p ps =>
              obtain ⟨e1, e2⟩ := List.cons.inj h1
              have e3 : D.int x = .int p.1 := (List.cons.inj (D.tup.inj e1)).1
              cases e3
              exact ⟨ps, e2, fun q hq => h2 q (List.mem_cons_of_mem _ hq), by rw [List.append_assoc]; exact h3⟩
theorem goB_lie (so : So) {xs : List D} (h : xs.length ≤ 40) : lieB so (.tup xs) = goB so [] xs := by
  rw [Bool.eq_iff_iff]
  cases so with
  | set =>
    rw [goB_set xs [] List.nodup_nil]
    rw [show lieB .set (.tup xs) = isSetB (.tup xs) from rfl, isSetB_iff]
    exact ⟨fun ⟨ns, e, hs⟩ => ⟨ns, D.tup.inj e, hs.rng, by simpa using hs.nd⟩, fun ⟨ns, e, h1, h2⟩ => ⟨ns, by rw [e], by rw [e, List.length_map] at h; exact h, h1, by simpa using h2⟩⟩
  | row =>
    rw [goB_row xs []]
    rw [show lieB .row (.tup xs) = isRowB (.tup xs) from rfl, isRowB_iff]
    exact ⟨fun ⟨ns, e, hs⟩ => ⟨ns, D.tup.inj e, hs.rng⟩, fun ⟨ns, e, h1⟩ => ⟨ns, by rw [e], by rw [e, List.length_map] at h; exact h, h1⟩⟩
  | map =>
    rw [goB_map xs [] List.nodup_nil]
    rw [show lieB .map (.tup xs) = isMapB (.tup xs) from rfl, isMapB_iff]
    exact ⟨fun ⟨ps, e, hs⟩ => ⟨ps, D.tup.inj e, hs.rng, by simpa using hs.nd⟩, fun ⟨ps, e, h1, h2⟩ => ⟨ps, by rw [e], by rw [e, List.length_map] at h; exact h, h1, by simpa using h2⟩⟩
theorem lieB_long (so : So) {xs : List D} (h : 40 < xs.length) : lieB so (.tup xs) = false := by
  cases so with
  | set => show (decide (xs.length ≤ 40) && _) = false; rw [decide_eq_false (by omega)]; rfl
  | row => show (decide (xs.length ≤ 40) && _) = false; rw [decide_eq_false (by omega)]; rfl
  | map => show (decide (xs.length ≤ 40) && _) = false; rw [decide_eq_false (by omega)]; rfl
end LW
namespace LW
open PySem PySem.Spec PySem.W PyProof.Rows L2 DL
local macro_rules | `(tactic| wp_walk) => `(tactic| simp only [e_gSeq, e_gSet, e_gRet, e_gRetN, e_gNext, e_gIfS, e_gDrop, e_gOwn, e_gApp, e_gExt, e_gForM, e_gLcM, e_gCnt, e_gTryV, e_gTryE, e_gxP, e_gxM, DL.Fr.mute, e_gIPut, e_gFrz, frz, e_gAsg, e_gPar, e_gPar3, e_gAug, e_gRaise, e_gRetM, e_gSetM, e_gMPut, e_gMGet, e_g1, e_g2, e_gC, e_gV, e_gVw, e_gB, e_gAnd, e_gOr, e_gNot, e_gNotV, e_gIf, e_DL_gCons, e_DL_gNil, e_DL_gTup, e_DL_gLst, e_gFl, e_gFd, e_gCa, e_gLenS, e_gPart, e_gNoP, e_gDisp, e_gPcons, e_gPnil, e_gtN, e_gtTup, e_gtCons, e_gtNil, e_gYes, e_gFor, e_gLc, e_giS, e_gCallP, e_gCallM, e_gScr, entry, aSls, aSl, DL.Fr.set, OM.d, wipeF, wipeS, keyD, List.length_cons, List.length_nil, List.cons_append, List.nil_append, List.append_nil, List.replicate_succ, List.replicate_zero, List.getElem?_cons_zero, List.getElem?_cons_succ, List.getElem?_nil, List.set_cons_zero, List.set_cons_succ, Nat.reduceAdd, Nat.reduceSub, if_true, if_false, ite_true, ite_false, reduceIte, Bool.false_eq_true, Bool.not_true, Bool.not_false, List.all_cons, List.all_nil, Bool.and_true, true_and, and_true, List.map_cons, List.map_nil, e_gIdx, ixT_ints, intsOf_map, Int.reduceToNat, Option.some.injEq, exists_eq_left', e_goAdd_int, e_goAdd_str, e_goAdd_tup, e_goAdd_lst, e_goAddW_int, e_goAddW_lst, e_goPlus_int, e_goI_int, e_guI_int, e_gcI1_int, e_goIx_lst, e_gcLen_lst, e_gcTupleS_lst, e_gcList_lst, e_goRevA_lst, e_goIx_tup, e_gcLen_tup, e_gcTupleS_tup, e_gcList_tup, e_goRevA_tup, e_gcTuple_lst, e_goIx_str, e_gcLen_str, e_gcInt_int, e_gcInt_bl, e_goMulT_tup, e_goMulL_lst, e_goIsB_bl, e_goIsN_non, isN_int, isN_bl, isN_str, isN_tup, isN_lst, isN_dic, isN_ref, isN_ty, isN_non, gTru_k, e_truK_non, e_truK_bl, e_truK_int, e_truK_lst, e_truK_tup, e_truK_str, gFlist_k, e_lstK_lst, e_lstK_tup, gsSl_k, e_slK_lst, slK_tup, e_slK_str, itsD_k, e_itsK_lst, e_itsK_tup, giZip_k, e_zipK_lst, e_zipK_tup, giR1_k, ran1K_nat, e_ran1K_int, giR2_k, e_ran2K_int, e_goLtA_int, goLtA_tup, ok_non, eqv_bl, e_goEq_int, e_goNe_int, e_goEq_bl, e_goNe_bl, gcMin_ints, gcMinT_ints, gcMax_ints, gcMaxT_ints, intsOf_mapf, blsOf_mapf, gcMin_f, gcMax_f, gcMin_2, gcMax_2, gcSum_ints, gcSum_f, gcBls_f, all_mapid, any_mapid, at_0, at_1, at_2, at_3, at_last, noOwn_nil, noOwn_1, noOwn_2, nof_n, nof_v, nof_b, nof_s, zipD_map, enumD_map, isi_non_int, isi_non_bool, isi_non_str, isi_non_tuple, isi_non_list, isi_non_dict, isi_bl_int, isi_bl_bool, isi_bl_str, isi_bl_tuple, isi_bl_list, isi_bl_dict, isi_int_int, isi_int_bool, isi_int_str, isi_int_tuple, isi_int_list, isi_int_dict, isi_str_int, isi_str_bool, isi_str_str, isi_str_tuple, isi_str_list, isi_str_dict, isi_tup_int, isi_tup_bool, isi_tup_str, isi_tup_tuple, isi_tup_list, isi_tup_dict, isi_lst_int, isi_lst_bool, isi_lst_str, isi_lst_tuple, isi_lst_list, isi_lst_dict, isi_dic_int, isi_dic_bool, isi_dic_str, isi_dic_tuple, isi_dic_list, isi_dic_dict, gcAll, gcAny, goMod, goFdiv, decide_eq_true_eq, Bool.not_eq_true', decide_eq_false_iff_not, ite_not, Bool.and_eq_true, not_false_eq_true, Bool.not_eq_true, List.map_append, Int.zero_add, List.any_cons, List.any_nil, Bool.true_and, Bool.or_false, Bool.xor_false, Bool.false_xor, Bool.true_xor, Bool.not_not, forall_const, Int.toNat_natCast, List.length_map, List.length_append, and_self, ne_eq, List.map_eq_nil_iff, not_true_eq_false, eq_self, goMulI, goSub, goPow, goLe, goGt, goGe, guNeg, gcAbs, e_goEq_str, e_goNe_str, e_goEq_tup, e_goNe_tup, e_goEq_lst, e_goNe_lst, e_goEq_non, e_goNe_non, e_gAndV_k, e_gOrV_k, e_gCh_k, blK_bl, ite_bf, reduceCtorEq, Int.reducePow, Int.reduceLT, Int.reduceLE, Int.reduceNeg, sz0, se0, sz1, se1, sz2, se2, sz3, se3, sz4, se4, sz5, se5, sz6, se6, sz7, se7, sz8, se8, sz9, se9, e_gFld, e_fldK_ref, e_gPutF, e_gPutFM, e_putFK_ref, e_gDrf, e_drfK_ref, e_gMApp, e_mlK_ref, e_gMPop, e_popK_int, e_gMIns, ins2K_2, insK_int, e_gMeth, e_mthK_ref, e_gMake, e_giR3, e_gFlR1, e_gFlR2, e_rg2K_int, e_gLenSet, lenSetK_lst, lenSetK_tup, e_gMinD, minDK_lst, e_giMem, e_giBA, e_gMIdx, e_goTab, e_gFsort, sortK_lst, sortK_tup, e_gStep, e_stepK_lst, e_gAppM, e_gDictV, e_gFdict, e_dictK_lst, e_dictK_tup, e_dictK_dic, e_gDic0, e_gFdic0, e_gDGet1, e_gDGet2, e_dicK_dic, e_gOPut, e_gOPop, e_giKeys, e_gPconsI, e_gDispV, e_goIx_dic, e_gcLen_dic, e_lstK_dic, e_truK_dic, getK, dgetK, e_gOIns, ins2K_2, insK_int, e_gCallL, e_gAct, e_gxAct, gLamT, lamS, lam1, entryL, e_gxV, e_gItemsT, e_gFvals, e_giItems, e_gFsortD, e_sortDK_dic, kvD])
local macro_rules | `(tactic| wp_walk using $ts,*) => `(tactic| simp only [$[$ts:term],*, e_gSeq, e_gSet, e_gRet, e_gRetN, e_gNext, e_gIfS, e_gDrop, e_gOwn, e_gApp, e_gExt, e_gForM, e_gLcM, e_gCnt, e_gTryV, e_gTryE, e_gxP, e_gxM, DL.Fr.mute, e_gIPut, e_gFrz, frz, e_gAsg, e_gPar, e_gPar3, e_gAug, e_gRaise, e_gRetM, e_gSetM, e_gMPut, e_gMGet, e_g1, e_g2, e_gC, e_gV, e_gVw, e_gB, e_gAnd, e_gOr, e_gNot, e_gNotV, e_gIf, e_DL_gCons, e_DL_gNil, e_DL_gTup, e_DL_gLst, e_gFl, e_gFd, e_gCa, e_gLenS, e_gPart, e_gNoP, e_gDisp, e_gPcons, e_gPnil, e_gtN, e_gtTup, e_gtCons, e_gtNil, e_gYes, e_gFor, e_gLc, e_giS, e_gCallP, e_gCallM, e_gScr, entry, aSls, aSl, DL.Fr.set, OM.d, wipeF, wipeS, keyD, List.length_cons, List.length_nil, List.cons_append, List.nil_append, List.append_nil, List.replicate_succ, List.replicate_zero, List.getElem?_cons_zero, List.getElem?_cons_succ, List.getElem?_nil, List.set_cons_zero, List.set_cons_succ, Nat.reduceAdd, Nat.reduceSub, if_true, if_false, ite_true, ite_false, reduceIte, Bool.false_eq_true, Bool.not_true, Bool.not_false, List.all_cons, List.all_nil, Bool.and_true, true_and, and_true, List.map_cons, List.map_nil, e_gIdx, ixT_ints, intsOf_map, Int.reduceToNat, Option.some.injEq, exists_eq_left', e_goAdd_int, e_goAdd_str, e_goAdd_tup, e_goAdd_lst, e_goAddW_int, e_goAddW_lst, e_goPlus_int, e_goI_int, e_guI_int, e_gcI1_int, e_goIx_lst, e_gcLen_lst, e_gcTupleS_lst, e_gcList_lst, e_goRevA_lst, e_goIx_tup, e_gcLen_tup, e_gcTupleS_tup, e_gcList_tup, e_goRevA_tup, e_gcTuple_lst, e_goIx_str, e_gcLen_str, e_gcInt_int, e_gcInt_bl, e_goMulT_tup, e_goMulL_lst, e_goIsB_bl, e_goIsN_non, isN_int, isN_bl, isN_str, isN_tup, isN_lst, isN_dic, isN_ref, isN_ty, isN_non, gTru_k, e_truK_non, e_truK_bl, e_truK_int, e_truK_lst, e_truK_tup, e_truK_str, gFlist_k, e_lstK_lst, e_lstK_tup, gsSl_k, e_slK_lst, slK_tup, e_slK_str, itsD_k, e_itsK_lst, e_itsK_tup, giZip_k, e_zipK_lst, e_zipK_tup, giR1_k, ran1K_nat, e_ran1K_int, giR2_k, e_ran2K_int, e_goLtA_int, goLtA_tup, ok_non, eqv_bl, e_goEq_int, e_goNe_int, e_goEq_bl, e_goNe_bl, gcMin_ints, gcMinT_ints, gcMax_ints, gcMaxT_ints, intsOf_mapf, blsOf_mapf, gcMin_f, gcMax_f, gcMin_2, gcMax_2, gcSum_ints, gcSum_f, gcBls_f, all_mapid, any_mapid, at_0, at_1, at_2, at_3, at_last, noOwn_nil, noOwn_1, noOwn_2, nof_n, nof_v, nof_b, nof_s, zipD_map, enumD_map, isi_non_int, isi_non_bool, isi_non_str, isi_non_tuple, isi_non_list, isi_non_dict, isi_bl_int, isi_bl_bool, isi_bl_str, isi_bl_tuple, isi_bl_list, isi_bl_dict, isi_int_int, isi_int_bool, isi_int_str, isi_int_tuple, isi_int_list, isi_int_dict, isi_str_int, isi_str_bool, isi_str_str, isi_str_tuple, isi_str_list, isi_str_dict, isi_tup_int, isi_tup_bool, isi_tup_str, isi_tup_tuple, isi_tup_list, isi_tup_dict, isi_lst_int, isi_lst_bool, isi_lst_str, isi_lst_tuple, isi_lst_list, isi_lst_dict, isi_dic_int, isi_dic_bool, isi_dic_str, isi_dic_tuple, isi_dic_list, isi_dic_dict, gcAll, gcAny, goMod, goFdiv, decide_eq_true_eq, Bool.not_eq_true', decide_eq_false_iff_not, ite_not, Bool.and_eq_true, not_false_eq_true, Bool.not_eq_true, List.map_append, Int.zero_add, List.any_cons, List.any_nil, Bool.true_and, Bool.or_false, Bool.xor_false, Bool.false_xor, Bool.true_xor, Bool.not_not, forall_const, Int.toNat_natCast, List.length_map, List.length_append, and_self, ne_eq, List.map_eq_nil_iff, not_true_eq_false, eq_self, goMulI, goSub, goPow, goLe, goGt, goGe, guNeg, gcAbs, e_goEq_str, e_goNe_str, e_goEq_tup, e_goNe_tup, e_goEq_lst, e_goNe_lst, e_goEq_non, e_goNe_non, e_gAndV_k, e_gOrV_k, e_gCh_k, blK_bl, ite_bf, reduceCtorEq, Int.reducePow, Int.reduceLT, Int.reduceLE, Int.reduceNeg, sz0, se0, sz1, se1, sz2, se2, sz3, se3, sz4, se4, sz5, se5, sz6, se6, sz7, se7, sz8, se8, sz9, se9, e_gFld, e_fldK_ref, e_gPutF, e_gPutFM, e_putFK_ref, e_gDrf, e_drfK_ref, e_gMApp, e_mlK_ref, e_gMPop, e_popK_int, e_gMIns, ins2K_2, insK_int, e_gMeth, e_mthK_ref, e_gMake, e_giR3, e_gFlR1, e_gFlR2, e_rg2K_int, e_gLenSet, lenSetK_lst, lenSetK_tup, e_gMinD, minDK_lst, e_giMem, e_giBA, e_gMIdx, e_goTab, e_gFsort, sortK_lst, sortK_tup, e_gStep, e_stepK_lst, e_gAppM, e_gDictV, e_gFdict, e_dictK_lst, e_dictK_tup, e_dictK_dic, e_gDic0, e_gFdic0, e_gDGet1, e_gDGet2, e_dicK_dic, e_gOPut, e_gOPop, e_giKeys, e_gPconsI, e_gDispV, e_goIx_dic, e_gcLen_dic, e_lstK_dic, e_truK_dic, getK, dgetK, e_gOIns, ins2K_2, insK_int, e_gCallL, e_gAct, e_gxAct, gLamT, lamS, lam1, entryL, e_gxV, e_gItemsT, e_gFvals, e_giItems, e_gFsortD, e_sortDK_dic, kvD])
variable {K : PySem.W.Frag}
section
variable {a : Addr} {xs : List D} {at_ w : Int} {M : Mem} {Q : D → Mem → Prop} {X : Addr → Mem → Prop}
structure Sp1 (a : Addr) (xs : List D) (M : Mem) (Q : D → Mem → Prop) : Prop where
  ms : M a = some .st
  hl : xs.length ≤ 50
  hx : ∀ d ∈ xs, (∃ x : Int, d = .int x) ∨ ∃ p, d = pI p
  q : ∀ d : D, d.da = true → Q d M
theorem Sp1.da (h : Sp1 a xs M Q) : D.daL xs = true := D.daL_of fun d hd => by
  rcases h.hx d hd with ⟨x, rfl⟩ | ⟨p, rfl⟩ <;> rfl
theorem Sp1.sz (h : Sp1 a xs M Q) (lo hi : Option Int) : (DL.cutD xs lo hi).length ≤ 50 := Nat.le_trans (len_cut xs lo hi) h.hl
theorem Sp1.fin (h : Sp1 a xs M Q) {ys : List D} (hy : D.daL ys = true) : Q (.tup ys) M := h.q _ (by rw [D.da_tup]; exact hy)
theorem Sp1.cut (h : Sp1 a xs M Q) (lo hi : Option Int) : D.daL (DL.cutD xs lo hi) = true := da_cut h.da lo hi
end
end LW
namespace LW
open PySem PySem.Spec PySem.W PyProof.Rows L2 DL
local macro_rules | `(tactic| wp_walk) => `(tactic| simp only [gSeq, gSet, gRet, gRetN, gNext, gIfS, gDrop, gOwn, gApp, gExt, gForM, gLcM, gCnt, gTryV, gTryE, gxP, gxM, DL.Fr.mute, gIPut, gFrz, frz, gAsg, gPar, gPar3, gAug, gRaise, gRetM, gSetM, gMPut, gMGet, g1, g2, gC, gV, gVw, gB, gAnd, gOr, gNot, gNotV, gIf, DL.gCons, DL.gNil, DL.gTup, DL.gLst, gFl, gFd, gCa, gLenS, gPart, gNoP, gDisp, gPcons, gPnil, gtN, gtTup, gtCons, gtNil, gYes, gFor, gLc, giS, gCallP, gCallM, gScr, entry, aSls, aSl, DL.Fr.set, OM.d, wipeF, wipeS, keyD, List.length_cons, List.length_nil, List.cons_append, List.nil_append, List.append_nil, List.replicate_succ, List.replicate_zero, List.getElem?_cons_zero, List.getElem?_cons_succ, List.getElem?_nil, List.set_cons_zero, List.set_cons_succ, Nat.reduceAdd, Nat.reduceSub, if_true, if_false, ite_true, ite_false, reduceIte, Bool.false_eq_true, Bool.not_true, Bool.not_false, List.all_cons, List.all_nil, Bool.and_true, true_and, and_true, List.map_cons, List.map_nil, gIdx, ixT_ints, intsOf_map, Int.reduceToNat, Option.some.injEq, exists_eq_left', goAdd_int, goAdd_str, goAdd_tup, goAdd_lst, goAddW_int, goAddW_lst, goPlus_int, goI_int, guI_int, gcI1_int, goIx_lst, gcLen_lst, gcTupleS_lst, gcList_lst, goRevA_lst, goIx_tup, gcLen_tup, gcTupleS_tup, gcList_tup, goRevA_tup, gcTuple_lst, goIx_str, gcLen_str, gcInt_int, gcInt_bl, goMulT_tup, goMulL_lst, goIsB_bl, goIsN_non, isN_int, isN_bl, isN_str, isN_tup, isN_lst, isN_dic, isN_ref, isN_ty, isN_non, gTru_k, truK_non, truK_bl, truK_int, truK_lst, truK_tup, truK_str, gFlist_k, lstK_lst, lstK_tup, gsSl_k, slK_lst, slK_tup, slK_str, itsD_k, itsK_lst, itsK_tup, giZip_k, zipK_lst, zipK_tup, giR1_k, ran1K_nat, ran1K_int, giR2_k, ran2K_int, goLtA_int, goLtA_tup, ok_non, eqv_bl, goEq_int, goNe_int, goEq_bl, goNe_bl, gcMin_ints, gcMinT_ints, gcMax_ints, gcMaxT_ints, intsOf_mapf, blsOf_mapf, gcMin_f, gcMax_f, gcMin_2, gcMax_2, gcSum_ints, gcSum_f, gcBls_f, all_mapid, any_mapid, at_0, at_1, at_2, at_3, at_last, noOwn_nil, noOwn_1, noOwn_2, nof_n, nof_v, nof_b, nof_s, zipD_map, enumD_map, isi_non_int, isi_non_bool, isi_non_str, isi_non_tuple, isi_non_list, isi_non_dict, isi_bl_int, isi_bl_bool, isi_bl_str, isi_bl_tuple, isi_bl_list, isi_bl_dict, isi_int_int, isi_int_bool, isi_int_str, isi_int_tuple, isi_int_list, isi_int_dict, isi_str_int, isi_str_bool, isi_str_str, isi_str_tuple, isi_str_list, isi_str_dict, isi_tup_int, isi_tup_bool, isi_tup_str, isi_tup_tuple, isi_tup_list, isi_tup_dict, isi_lst_int, isi_lst_bool, isi_lst_str, isi_lst_tuple, isi_lst_list, isi_lst_dict, isi_dic_int, isi_dic_bool, isi_dic_str, isi_dic_tuple, isi_dic_list, isi_dic_dict, gcAll, gcAny, goMod, goFdiv, decide_eq_true_eq, Bool.not_eq_true', decide_eq_false_iff_not, ite_not, Bool.and_eq_true, not_false_eq_true, Bool.not_eq_true, List.map_append, Int.zero_add, List.any_cons, List.any_nil, Bool.true_and, Bool.or_false, Bool.xor_false, Bool.false_xor, Bool.true_xor, Bool.not_not, forall_const, Int.toNat_natCast, List.length_map, List.length_append, and_self, ne_eq, List.map_eq_nil_iff, not_true_eq_false, eq_self, goMulI, goSub, goPow, goLe, goGt, goGe, guNeg, gcAbs, goEq_str, goNe_str, goEq_tup, goNe_tup, goEq_lst, goNe_lst, goEq_non, goNe_non, gAndV_k, gOrV_k, gCh_k, blK_bl, ite_bf, reduceCtorEq, Int.reducePow, Int.reduceLT, Int.reduceLE, Int.reduceNeg, sz0, se0, sz1, se1, sz2, se2, sz3, se3, sz4, se4, sz5, se5, sz6, se6, sz7, se7, sz8, se8, sz9, se9, gFld, fldK_ref, gPutF, gPutFM, putFK_ref, gDrf, drfK_ref, gMApp, mlK_ref, gMPop, popK_int, gMIns, ins2K_2, insK_int, gMeth, mthK_ref, gMake, giR3, gFlR1, gFlR2, rg2K_int, gLenSet, lenSetK_lst, lenSetK_tup, gMinD, minDK_lst, giMem, giBA, gMIdx, goTab, gFsort, sortK_lst, sortK_tup])
local macro_rules | `(tactic| wp_walk using $ts,*) => `(tactic| simp only [$[$ts:term],*, gSeq, gSet, gRet, gRetN, gNext, gIfS, gDrop, gOwn, gApp, gExt, gForM, gLcM, gCnt, gTryV, gTryE, gxP, gxM, DL.Fr.mute, gIPut, gFrz, frz, gAsg, gPar, gPar3, gAug, gRaise, gRetM, gSetM, gMPut, gMGet, g1, g2, gC, gV, gVw, gB, gAnd, gOr, gNot, gNotV, gIf, DL.gCons, DL.gNil, DL.gTup, DL.gLst, gFl, gFd, gCa, gLenS, gPart, gNoP, gDisp, gPcons, gPnil, gtN, gtTup, gtCons, gtNil, gYes, gFor, gLc, giS, gCallP, gCallM, gScr, entry, aSls, aSl, DL.Fr.set, OM.d, wipeF, wipeS, keyD, List.length_cons, List.length_nil, List.cons_append, List.nil_append, List.append_nil, List.replicate_succ, List.replicate_zero, List.getElem?_cons_zero, List.getElem?_cons_succ, List.getElem?_nil, List.set_cons_zero, List.set_cons_succ, Nat.reduceAdd, Nat.reduceSub, if_true, if_false, ite_true, ite_false, reduceIte, Bool.false_eq_true, Bool.not_true, Bool.not_false, List.all_cons, List.all_nil, Bool.and_true, true_and, and_true, List.map_cons, List.map_nil, gIdx, ixT_ints, intsOf_map, Int.reduceToNat, Option.some.injEq, exists_eq_left', goAdd_int, goAdd_str, goAdd_tup, goAdd_lst, goAddW_int, goAddW_lst, goPlus_int, goI_int, guI_int, gcI1_int, goIx_lst, gcLen_lst, gcTupleS_lst, gcList_lst, goRevA_lst, goIx_tup, gcLen_tup, gcTupleS_tup, gcList_tup, goRevA_tup, gcTuple_lst, goIx_str, gcLen_str, gcInt_int, gcInt_bl, goMulT_tup, goMulL_lst, goIsB_bl, goIsN_non, isN_int, isN_bl, isN_str, isN_tup, isN_lst, isN_dic, isN_ref, isN_ty, isN_non, gTru_k, truK_non, truK_bl, truK_int, truK_lst, truK_tup, truK_str, gFlist_k, lstK_lst, lstK_tup, gsSl_k, slK_lst, slK_tup, slK_str, itsD_k, itsK_lst, itsK_tup, giZip_k, zipK_lst, zipK_tup, giR1_k, ran1K_nat, ran1K_int, giR2_k, ran2K_int, goLtA_int, goLtA_tup, ok_non, eqv_bl, goEq_int, goNe_int, goEq_bl, goNe_bl, gcMin_ints, gcMinT_ints, gcMax_ints, gcMaxT_ints, intsOf_mapf, blsOf_mapf, gcMin_f, gcMax_f, gcMin_2, gcMax_2, gcSum_ints, gcSum_f, gcBls_f, all_mapid, any_mapid, at_0, at_1, at_2, at_3, at_last, noOwn_nil, noOwn_1, noOwn_2, nof_n, nof_v, nof_b, nof_s, zipD_map, enumD_map, isi_non_int, isi_non_bool, isi_non_str, isi_non_tuple, isi_non_list, isi_non_dict, isi_bl_int, isi_bl_bool, isi_bl_str, isi_bl_tuple, isi_bl_list, isi_bl_dict, isi_int_int, isi_int_bool, isi_int_str, isi_int_tuple, isi_int_list, isi_int_dict, isi_str_int, isi_str_bool, isi_str_str, isi_str_tuple, isi_str_list, isi_str_dict, isi_tup_int, isi_tup_bool, isi_tup_str, isi_tup_tuple, isi_tup_list, isi_tup_dict, isi_lst_int, isi_lst_bool, isi_lst_str, isi_lst_tuple, isi_lst_list, isi_lst_dict, isi_dic_int, isi_dic_bool, isi_dic_str, isi_dic_tuple, isi_dic_list, isi_dic_dict, gcAll, gcAny, goMod, goFdiv, decide_eq_true_eq, Bool.not_eq_true', decide_eq_false_iff_not, ite_not, Bool.and_eq_true, not_false_eq_true, Bool.not_eq_true, List.map_append, Int.zero_add, List.any_cons, List.any_nil, Bool.true_and, Bool.or_false, Bool.xor_false, Bool.false_xor, Bool.true_xor, Bool.not_not, forall_const, Int.toNat_natCast, List.length_map, List.length_append, and_self, ne_eq, List.map_eq_nil_iff, not_true_eq_false, eq_self, goMulI, goSub, goPow, goLe, goGt, goGe, guNeg, gcAbs, goEq_str, goNe_str, goEq_tup, goNe_tup, goEq_lst, goNe_lst, goEq_non, goNe_non, gAndV_k, gOrV_k, gCh_k, blK_bl, ite_bf, reduceCtorEq, Int.reducePow, Int.reduceLT, Int.reduceLE, Int.reduceNeg, sz0, se0, sz1, se1, sz2, se2, sz3, se3, sz4, se4, sz5, se5, sz6, se6, sz7, se7, sz8, se8, sz9, se9, gFld, fldK_ref, gPutF, gPutFM, putFK_ref, gDrf, drfK_ref, gMApp, mlK_ref, gMPop, popK_int, gMIns, ins2K_2, insK_int, gMeth, mthK_ref, gMake, giR3, gFlR1, gFlR2, rg2K_int, gLenSet, lenSetK_lst, lenSetK_tup, gMinD, minDK_lst, giMem, giBA, gMIdx, goTab, gFsort, sortK_lst, sortK_tup])
theorem sok_app {a b : PySem.Str} (ha : PyData.strOk a = true) (hb : PyData.strOk b = true) : PyData.strOk (a ++ b) = true := by
  show (a ++ b).cps.all (· < 0x110000) = true
  rw [show (a ++ b).cps = a.cps ++ b.cps from rfl, Array.all_append]
  exact Bool.and_eq_true_iff.mpr ⟨ha, hb⟩
theorem sok_of (s : String) : PyData.strOk (PySem.Str.ofString s) = true := by
  rw [PySem.Str.ofString_eq_toList]
  show ((s.toList.map Char.toNat).toArray).all (· < 0x110000) = true
  rw [List.all_toArray, List.all_eq_true]
  intro n hn
  obtain ⟨c, _, rfl⟩ := List.mem_map.mp hn
  have h := c.valid
  have e : c.val.toNat = c.toNat := rfl
  unfold UInt32.isValidChar Nat.isValidChar at h
  rw [decide_eq_true_eq]
  omega
theorem sok_text : ∀ (ts : List PySem.Str) (k : Nat) (acc : PySem.Str), PyData.strOk acc = true → (∀ t ∈ ts, PyData.strOk t = true) → PyData.strOk (textFrom k acc ts) = true
  | [], _, _, h, _ => h
  | t :: ts, k, acc, h, ht => sok_text ts (k + 1) _ (sok_app (sok_app h (sok_of _)) (ht t (List.mem_cons_self ..))) fun x hx => ht x (List.mem_cons_of_mem _ hx)
theorem sok_list {ts : List PySem.Str} (h : ∀ t ∈ ts, PyData.strOk t = true) : PyData.strOk (listText ts) = true := sok_app (sok_text ts 0 _ (sok_of _) h) (sok_of _)
theorem sok_join : ∀ (ts : List PySem.Str), (∀ t ∈ ts, PyData.strOk t = true) → PyData.strOk (PySem.Str.join ", " ts) = true
  | [], _ => by decide +kernel
  | [x], h => h x (List.mem_cons_self ..)
  | x :: y :: r, h => sok_app (sok_app (h x (List.mem_cons_self ..)) (sok_of _)) (sok_join (y :: r) fun t ht => h t (List.mem_cons_of_mem _ ht))
theorem sok_tup {ts : List PySem.Str} (h : ∀ t ∈ ts, PyData.strOk t = true) : PyData.strOk (tupleText ts) = true := sok_app (sok_app (sok_of _) (sok_join ts h)) (sok_of _)
mutual
/-- no text, no dict within -/
def ntx : D → Bool
  | .non | .bl _ | .int _ => true
  | .tup xs | .lst xs => ntxL xs
  | _ => false
def ntxL : List D → Bool
  | [] => true
  | d :: r => ntx d && ntxL r
end
theorem ntx_ints : ∀ (ns : List Int), ntxL (ns.map D.int) = true
  | [] => rfl
  | _ :: ns => ntx_ints ns
end LW
namespace LW
open PySem PySem.Spec PySem.W PyProof.Rows L2 DL
local macro_rules | `(tactic| wp_walk) => `(tactic| simp only [e_gSeq, e_gSet, e_gRet, e_gRetN, e_gNext, e_gIfS, e_gDrop, e_gOwn, e_gApp, e_gExt, e_gForM, e_gLcM, e_gCnt, e_gTryV, e_gTryE, e_gxP, e_gxM, DL.Fr.mute, e_gIPut, e_gFrz, frz, e_gAsg, e_gPar, e_gPar3, e_gAug, e_gRaise, e_gRetM, e_gSetM, e_gMPut, e_gMGet, e_g1, e_g2, e_gC, e_gV, e_gVw, e_gB, e_gAnd, e_gOr, e_gNot, e_gNotV, e_gIf, e_DL_gCons, e_DL_gNil, e_DL_gTup, e_DL_gLst, e_gFl, e_gFd, e_gCa, e_gLenS, e_gPart, e_gNoP, e_gDisp, e_gPcons, e_gPnil, e_gtN, e_gtTup, e_gtCons, e_gtNil, e_gYes, e_gFor, e_gLc, e_giS, e_gCallP, e_gCallM, e_gScr, entry, aSls, aSl, DL.Fr.set, OM.d, wipeF, wipeS, keyD, List.length_cons, List.length_nil, List.cons_append, List.nil_append, List.append_nil, List.replicate_succ, List.replicate_zero, List.getElem?_cons_zero, List.getElem?_cons_succ, List.getElem?_nil, List.set_cons_zero, List.set_cons_succ, Nat.reduceAdd, Nat.reduceSub, if_true, if_false, ite_true, ite_false, reduceIte, Bool.false_eq_true, Bool.not_true, Bool.not_false, List.all_cons, List.all_nil, Bool.and_true, true_and, and_true, List.map_cons, List.map_nil, e_gIdx, ixT_ints, intsOf_map, Int.reduceToNat, Option.some.injEq, exists_eq_left', e_goAdd_int, e_goAdd_str, e_goAdd_tup, e_goAdd_lst, e_goAddW_int, e_goAddW_lst, e_goPlus_int, e_goI_int, e_guI_int, e_gcI1_int, e_goIx_lst, e_gcLen_lst, e_gcTupleS_lst, e_gcList_lst, e_goRevA_lst, e_goIx_tup, e_gcLen_tup, e_gcTupleS_tup, e_gcList_tup, e_goRevA_tup, e_gcTuple_lst, e_goIx_str, e_gcLen_str, e_gcInt_int, e_gcInt_bl, e_goMulT_tup, e_goMulL_lst, e_goIsB_bl, e_goIsN_non, isN_int, isN_bl, isN_str, isN_tup, isN_lst, isN_dic, isN_ref, isN_ty, isN_non, gTru_k, e_truK_non, e_truK_bl, e_truK_int, e_truK_lst, e_truK_tup, e_truK_str, gFlist_k, e_lstK_lst, e_lstK_tup, gsSl_k, e_slK_lst, slK_tup, e_slK_str, itsD_k, e_itsK_lst, e_itsK_tup, giZip_k, e_zipK_lst, e_zipK_tup, giR1_k, ran1K_nat, e_ran1K_int, giR2_k, e_ran2K_int, e_goLtA_int, goLtA_tup, ok_non, eqv_bl, e_goEq_int, e_goNe_int, e_goEq_bl, e_goNe_bl, gcMin_ints, gcMinT_ints, gcMax_ints, gcMaxT_ints, intsOf_mapf, blsOf_mapf, gcMin_f, gcMax_f, gcMin_2, gcMax_2, gcSum_ints, gcSum_f, gcBls_f, all_mapid, any_mapid, at_0, at_1, at_2, at_3, at_last, noOwn_nil, noOwn_1, noOwn_2, nof_n, nof_v, nof_b, nof_s, zipD_map, enumD_map, isi_non_int, isi_non_bool, isi_non_str, isi_non_tuple, isi_non_list, isi_non_dict, isi_bl_int, isi_bl_bool, isi_bl_str, isi_bl_tuple, isi_bl_list, isi_bl_dict, isi_int_int, isi_int_bool, isi_int_str, isi_int_tuple, isi_int_list, isi_int_dict, isi_str_int, isi_str_bool, isi_str_str, isi_str_tuple, isi_str_list, isi_str_dict, isi_tup_int, isi_tup_bool, isi_tup_str, isi_tup_tuple, isi_tup_list, isi_tup_dict, isi_lst_int, isi_lst_bool, isi_lst_str, isi_lst_tuple, isi_lst_list, isi_lst_dict, isi_dic_int, isi_dic_bool, isi_dic_str, isi_dic_tuple, isi_dic_list, isi_dic_dict, gcAll, gcAny, goMod, goFdiv, decide_eq_true_eq, Bool.not_eq_true', decide_eq_false_iff_not, ite_not, Bool.and_eq_true, not_false_eq_true, Bool.not_eq_true, List.map_append, Int.zero_add, List.any_cons, List.any_nil, Bool.true_and, Bool.or_false, Bool.xor_false, Bool.false_xor, Bool.true_xor, Bool.not_not, forall_const, Int.toNat_natCast, List.length_map, List.length_append, and_self, ne_eq, List.map_eq_nil_iff, not_true_eq_false, eq_self, goMulI, goSub, goPow, goLe, goGt, goGe, guNeg, gcAbs, e_goEq_str, e_goNe_str, e_goEq_tup, e_goNe_tup, e_goEq_lst, e_goNe_lst, e_goEq_non, e_goNe_non, e_gAndV_k, e_gOrV_k, e_gCh_k, blK_bl, ite_bf, reduceCtorEq, Int.reducePow, Int.reduceLT, Int.reduceLE, Int.reduceNeg, sz0, se0, sz1, se1, sz2, se2, sz3, se3, sz4, se4, sz5, se5, sz6, se6, sz7, se7, sz8, se8, sz9, se9, e_gFld, e_fldK_ref, e_gPutF, e_gPutFM, e_putFK_ref, e_gDrf, e_drfK_ref, e_gMApp, e_mlK_ref, e_gMPop, e_popK_int, e_gMIns, ins2K_2, insK_int, e_gMeth, e_mthK_ref, e_gMake, e_giR3, e_gFlR1, e_gFlR2, e_rg2K_int, e_gLenSet, lenSetK_lst, lenSetK_tup, e_gMinD, minDK_lst, e_giMem, e_giBA, e_gMIdx, e_goTab, e_gFsort, sortK_lst, sortK_tup, e_gStep, e_stepK_lst, e_gAppM, e_gDictV, e_gFdict, e_dictK_lst, e_dictK_tup, e_dictK_dic, e_gDic0, e_gFdic0, e_gDGet1, e_gDGet2, e_dicK_dic, e_gOPut, e_gOPop, e_giKeys, e_gPconsI, e_gDispV, e_goIx_dic, e_gcLen_dic, e_lstK_dic, e_truK_dic, getK, dgetK, e_gOIns, ins2K_2, insK_int, e_gCallL, e_gAct, e_gxAct, gLamT, lamS, lam1, entryL, e_gxV, e_gItemsT, e_gFvals, e_giItems, e_gFsortD, e_sortDK_dic, kvD, goEqE_lst, goEqE_tup, List.isEmpty_cons, List.isEmpty_nil, gcReprA_1, gcStrA_1, goEqI_x, goAddB_ii, goAddB_bi, goAddB_ib, goSubB_ii, goSubB_bi, goSubB_ib, goMulB_ii, goMulB_bi, goMulB_ib, guNegB_i, guNegB_b])
local macro_rules | `(tactic| wp_walk using $ts,*) => `(tactic| simp only [$[$ts:term],*, e_gSeq, e_gSet, e_gRet, e_gRetN, e_gNext, e_gIfS, e_gDrop, e_gOwn, e_gApp, e_gExt, e_gForM, e_gLcM, e_gCnt, e_gTryV, e_gTryE, e_gxP, e_gxM, DL.Fr.mute, e_gIPut, e_gFrz, frz, e_gAsg, e_gPar, e_gPar3, e_gAug, e_gRaise, e_gRetM, e_gSetM, e_gMPut, e_gMGet, e_g1, e_g2, e_gC, e_gV, e_gVw, e_gB, e_gAnd, e_gOr, e_gNot, e_gNotV, e_gIf, e_DL_gCons, e_DL_gNil, e_DL_gTup, e_DL_gLst, e_gFl, e_gFd, e_gCa, e_gLenS, e_gPart, e_gNoP, e_gDisp, e_gPcons, e_gPnil, e_gtN, e_gtTup, e_gtCons, e_gtNil, e_gYes, e_gFor, e_gLc, e_giS, e_gCallP, e_gCallM, e_gScr, entry, aSls, aSl, DL.Fr.set, OM.d, wipeF, wipeS, keyD, List.length_cons, List.length_nil, List.cons_append, List.nil_append, List.append_nil, List.replicate_succ, List.replicate_zero, List.getElem?_cons_zero, List.getElem?_cons_succ, List.getElem?_nil, List.set_cons_zero, List.set_cons_succ, Nat.reduceAdd, Nat.reduceSub, if_true, if_false, ite_true, ite_false, reduceIte, Bool.false_eq_true, Bool.not_true, Bool.not_false, List.all_cons, List.all_nil, Bool.and_true, true_and, and_true, List.map_cons, List.map_nil, e_gIdx, ixT_ints, intsOf_map, Int.reduceToNat, Option.some.injEq, exists_eq_left', e_goAdd_int, e_goAdd_str, e_goAdd_tup, e_goAdd_lst, e_goAddW_int, e_goAddW_lst, e_goPlus_int, e_goI_int, e_guI_int, e_gcI1_int, e_goIx_lst, e_gcLen_lst, e_gcTupleS_lst, e_gcList_lst, e_goRevA_lst, e_goIx_tup, e_gcLen_tup, e_gcTupleS_tup, e_gcList_tup, e_goRevA_tup, e_gcTuple_lst, e_goIx_str, e_gcLen_str, e_gcInt_int, e_gcInt_bl, e_goMulT_tup, e_goMulL_lst, e_goIsB_bl, e_goIsN_non, isN_int, isN_bl, isN_str, isN_tup, isN_lst, isN_dic, isN_ref, isN_ty, isN_non, gTru_k, e_truK_non, e_truK_bl, e_truK_int, e_truK_lst, e_truK_tup, e_truK_str, gFlist_k, e_lstK_lst, e_lstK_tup, gsSl_k, e_slK_lst, slK_tup, e_slK_str, itsD_k, e_itsK_lst, e_itsK_tup, giZip_k, e_zipK_lst, e_zipK_tup, giR1_k, ran1K_nat, e_ran1K_int, giR2_k, e_ran2K_int, e_goLtA_int, goLtA_tup, ok_non, eqv_bl, e_goEq_int, e_goNe_int, e_goEq_bl, e_goNe_bl, gcMin_ints, gcMinT_ints, gcMax_ints, gcMaxT_ints, intsOf_mapf, blsOf_mapf, gcMin_f, gcMax_f, gcMin_2, gcMax_2, gcSum_ints, gcSum_f, gcBls_f, all_mapid, any_mapid, at_0, at_1, at_2, at_3, at_last, noOwn_nil, noOwn_1, noOwn_2, nof_n, nof_v, nof_b, nof_s, zipD_map, enumD_map, isi_non_int, isi_non_bool, isi_non_str, isi_non_tuple, isi_non_list, isi_non_dict, isi_bl_int, isi_bl_bool, isi_bl_str, isi_bl_tuple, isi_bl_list, isi_bl_dict, isi_int_int, isi_int_bool, isi_int_str, isi_int_tuple, isi_int_list, isi_int_dict, isi_str_int, isi_str_bool, isi_str_str, isi_str_tuple, isi_str_list, isi_str_dict, isi_tup_int, isi_tup_bool, isi_tup_str, isi_tup_tuple, isi_tup_list, isi_tup_dict, isi_lst_int, isi_lst_bool, isi_lst_str, isi_lst_tuple, isi_lst_list, isi_lst_dict, isi_dic_int, isi_dic_bool, isi_dic_str, isi_dic_tuple, isi_dic_list, isi_dic_dict, gcAll, gcAny, goMod, goFdiv, decide_eq_true_eq, Bool.not_eq_true', decide_eq_false_iff_not, ite_not, Bool.and_eq_true, not_false_eq_true, Bool.not_eq_true, List.map_append, Int.zero_add, List.any_cons, List.any_nil, Bool.true_and, Bool.or_false, Bool.xor_false, Bool.false_xor, Bool.true_xor, Bool.not_not, forall_const, Int.toNat_natCast, List.length_map, List.length_append, and_self, ne_eq, List.map_eq_nil_iff, not_true_eq_false, eq_self, goMulI, goSub, goPow, goLe, goGt, goGe, guNeg, gcAbs, e_goEq_str, e_goNe_str, e_goEq_tup, e_goNe_tup, e_goEq_lst, e_goNe_lst, e_goEq_non, e_goNe_non, e_gAndV_k, e_gOrV_k, e_gCh_k, blK_bl, ite_bf, reduceCtorEq, Int.reducePow, Int.reduceLT, Int.reduceLE, Int.reduceNeg, sz0, se0, sz1, se1, sz2, se2, sz3, se3, sz4, se4, sz5, se5, sz6, se6, sz7, se7, sz8, se8, sz9, se9, e_gFld, e_fldK_ref, e_gPutF, e_gPutFM, e_putFK_ref, e_gDrf, e_drfK_ref, e_gMApp, e_mlK_ref, e_gMPop, e_popK_int, e_gMIns, ins2K_2, insK_int, e_gMeth, e_mthK_ref, e_gMake, e_giR3, e_gFlR1, e_gFlR2, e_rg2K_int, e_gLenSet, lenSetK_lst, lenSetK_tup, e_gMinD, minDK_lst, e_giMem, e_giBA, e_gMIdx, e_goTab, e_gFsort, sortK_lst, sortK_tup, e_gStep, e_stepK_lst, e_gAppM, e_gDictV, e_gFdict, e_dictK_lst, e_dictK_tup, e_dictK_dic, e_gDic0, e_gFdic0, e_gDGet1, e_gDGet2, e_dicK_dic, e_gOPut, e_gOPop, e_giKeys, e_gPconsI, e_gDispV, e_goIx_dic, e_gcLen_dic, e_lstK_dic, e_truK_dic, getK, dgetK, e_gOIns, ins2K_2, insK_int, e_gCallL, e_gAct, e_gxAct, gLamT, lamS, lam1, entryL, e_gxV, e_gItemsT, e_gFvals, e_giItems, e_gFsortD, e_sortDK_dic, kvD, goEqE_lst, goEqE_tup, List.isEmpty_cons, List.isEmpty_nil, gcReprA_1, gcStrA_1, goEqI_x, goAddB_ii, goAddB_bi, goAddB_ib, goSubB_ii, goSubB_bi, goSubB_ib, goMulB_ii, goMulB_bi, goMulB_ib, guNegB_i, guNegB_b])
variable {K : PySem.W.Frag}
mutual
def gd (m : Nat) : PyData → Bool
  | .none | .bool _ => true
  | .int i => decide (i.natAbs < 10 ^ m)
  | .str x => PyData.strOk x
  | .list xs | .tuple xs => gdL m xs
  | .dict kvs => gdK m kvs
def gdL (m : Nat) : List PyData → Bool
  | [] => true
  | x :: r => gd m x && gdL m r
def gdK (m : Nat) : List (PyData × PyData) → Bool
  | [] => true
  | (k, v) :: r => gd m k && gd m v && gdK m r
end
theorem sok_char (c : Char) : c.toNat < 0x110000 := by
  have h := c.valid
  have e : c.val.toNat = c.toNat := rfl
  unfold UInt32.isValidChar Nat.isValidChar at h
  omega
theorem sok_reprChar (q c : Nat) (hq : q < 0x110000) (hc : c < 0x110000) : ∀ d ∈ PySem.Builtin.Str.reprChar q c, d < 0x110000 := by
  have hx : ∀ n, ∀ d ∈ (Nat.toDigits 16 n).map Char.toNat, d < 0x110000 := fun n d hd => by
    obtain ⟨z, _, rfl⟩ := List.mem_map.mp hd
    exact sok_char z
  intro d hd
  unfold PySem.Builtin.Str.reprChar at hd
  dsimp only at hd
  have two : ∀ {a b : Nat}, a < 0x110000 → b < 0x110000 → d ∈ [a, b] → d < 0x110000 := fun h1 h2 h => by
    simp only [List.mem_cons, List.not_mem_nil, or_false] at h
    rcases h with rfl | rfl <;> assumption
  have hex : ∀ {a b w : Nat}, a < 0x110000 → b < 0x110000 → d ∈ [a, b] ++ (List.replicate w 48 ++ (Nat.toDigits 16 c).map Char.toNat) → d < 0x110000 := fun h1 h2 h => by
    rcases List.mem_append.mp h with h | h
    · exact two h1 h2 h
    rcases List.mem_append.mp h with h | h
    · rw [(List.mem_replicate.mp h).2]; decide
    · exact hx _ _ h
  repeat' split at hd
  all_goals first
    | exact two (by omega) (by omega) hd
    | exact hex (by omega) (by omega) hd
    | (rw [List.mem_singleton.mp hd]; omega)
theorem sok_fold (q : Nat) (hq : q < 0x110000) : ∀ (l : List Nat) (acc : Array Nat), (∀ c ∈ l, c < 0x110000) → (∀ c ∈ acc.toList, c < 0x110000) → ∀ c ∈ (l.foldl (fun out c => out ++ (PySem.Builtin.Str.reprChar q c).toArray) acc).toList, c < 0x110000
  | [], acc, _, h => h
  | c :: r, acc, h, h2 => sok_fold q hq r _ (fun d hd => h d (List.mem_cons_of_mem _ hd)) fun d hd => by
    rw [Array.toList_append, List.mem_append] at hd
    rcases hd with hd | hd
    · exact h2 d hd
    · exact sok_reprChar q c hq (h c (List.mem_cons_self ..)) d hd
theorem sok_iff {x : PySem.Str} : PyData.strOk x = true ↔ ∀ c ∈ x.cps.toList, c < 0x110000 := by
  show x.cps.all (· < 0x110000) = true ↔ _
  rw [← Array.all_toList, List.all_eq_true]
  exact ⟨fun h c hc => of_decide_eq_true (h c hc), fun h c hc => decide_eq_true (h c hc)⟩
theorem sok_repr {x : PySem.Str} (h : PyData.strOk x = true) : PyData.strOk (PyData.str x).shown = true := by
  have hq : reprQuote x < 0x110000 := by
    unfold reprQuote
    split <;> decide
  rw [sok_iff] at h ⊢
  intro c hc
  have hc : c ∈ ((x.cps.foldl (fun out c => out ++ (PySem.Builtin.Str.reprChar (reprQuote x) c).toArray) #[reprQuote x]).push (reprQuote x)).toList := hc
  rw [Array.toList_push, List.mem_append, ← Array.foldl_toList] at hc
  rcases hc with hc | hc
  · exact sok_fold _ hq _ _ h (fun d hd => by rw [show d = reprQuote x by simpa using hd]; exact hq) c hc
  · rw [List.mem_singleton.mp hc]; exact hq
theorem sok_dict {ts : List PySem.Str} (h : ∀ t ∈ ts, PyData.strOk t = true) : PyData.strOk (dictText ts) = true := sok_app (sok_app (sok_of _) (sok_join ts h)) (sok_of _)
mutual
theorem gd_sok {m : Nat} : ∀ (d : PyData), gd m d = true → PyData.strOk d.shown = true
  | .none, _ => sok_of _
  | .bool b, _ => by
    show PyData.strOk (if b = true then ("True" : PySem.Str) else ("False" : PySem.Str)) = true
    split
    · exact sok_of _
    · exact sok_of _
  | .int i, _ => sok_of _
  | .str x, h => sok_repr h
  | .tuple xs, h => sok_tup (gdL_sok xs h)
  | .list xs, h => sok_list (gdL_sok xs h)
  | .dict kvs, h => sok_dict (gdK_sok kvs h)
theorem gdL_sok {m : Nat} : ∀ (ds : List PyData), gdL m ds = true → ∀ t ∈ PyData.shownAll ds, PyData.strOk t = true
  | [], _, t, ht => by cases ht
  | d :: ds, h, t, ht => by
    have h' := Bool.and_eq_true_iff.mp (show (gd m d && gdL m ds) = true from h)
    rcases List.mem_cons.mp (show t ∈ d.shown :: PyData.shownAll ds from ht) with rfl | ht
    · exact gd_sok d h'.1
    · exact gdL_sok ds h'.2 t ht
theorem gdK_sok {m : Nat} : ∀ (ds : List (PyData × PyData)), gdK m ds = true → ∀ t ∈ PyData.shownKv ds, PyData.strOk t = true
  | [], _, t, ht => by cases ht
  | (k, d) :: ds, h, t, ht => by
    have h' := Bool.and_eq_true_iff.mp (show ((gd m k && gd m d) && gdK m ds) = true from h)
    have h1 := Bool.and_eq_true_iff.mp h'.1
    rcases List.mem_cons.mp (show t ∈ (k.shown ++ ": " ++ d.shown) :: PyData.shownKv ds from ht) with rfl | ht
    · exact sok_app (sok_app (gd_sok k h1.1) (sok_of _)) (gd_sok d h1.2)
    · exact gdK_sok ds h'.2 t ht
end
mutual
theorem gd_sh {m : Nat} (hm : m ≤ 38) : ∀ (d : PyData), gd m d = true → d.showable = true
  | .none, _ => rfl
  | .bool b, _ => rfl
  | .int i, h => by
    have h : i.natAbs < 10 ^ m := of_decide_eq_true h
    refine decide_eq_true ?_
    have e : (10 : Nat) ^ m ≤ 10 ^ 38 := Nat.pow_le_pow_right (by decide) hm
    by_cases z : i.natAbs = 0
    · rw [z]; decide +kernel
    · rw [Nat.log2_lt z]
      have : (10 : Nat) ^ 38 < 2 ^ 1920 := by decide +kernel
      omega
  | .str x, h => rfl
  | .tuple xs, h => gdL_sh hm xs h
  | .list xs, h => gdL_sh hm xs h
  | .dict kvs, h => gdK_sh hm kvs h
theorem gdL_sh {m : Nat} (hm : m ≤ 38) : ∀ (ds : List PyData), gdL m ds = true → PyData.showableAll ds = true
  | [], _ => rfl
  | d :: ds, h => by
    have h' := Bool.and_eq_true_iff.mp (show (gd m d && gdL m ds) = true from h)
    exact Bool.and_eq_true_iff.mpr ⟨gd_sh hm d h'.1, gdL_sh hm ds h'.2⟩
theorem gdK_sh {m : Nat} (hm : m ≤ 38) : ∀ (ds : List (PyData × PyData)), gdK m ds = true → PyData.showableKv ds = true
  | [], _ => rfl
  | (k, d) :: ds, h => by
    have h' := Bool.and_eq_true_iff.mp (show ((gd m k && gd m d) && gdK m ds) = true from h)
    have h1 := Bool.and_eq_true_iff.mp h'.1
    exact Bool.and_eq_true_iff.mpr ⟨Bool.and_eq_true_iff.mpr ⟨gd_sh hm k h1.1, gd_sh hm d h1.2⟩, gdK_sh hm ds h'.2⟩
end
mutual
theorem gd_lv {m : Nat} (h0 : 0 < m) (hm : m ≤ 38) : ∀ (d : PyData), gd m d = true → d.leavesShort 40 = true
  | .none, _ => rfl
  | .bool b, _ => rfl
  | .int i, h => by
    have e := int_text_length_le10 h0 (of_decide_eq_true h)
    refine decide_eq_true ?_
    show (PySem.Str.ofString (toString i)).length ≤ 40
    rw [PySem.ofString_length]
    omega
  | .str x, h => by
    refine List.all_eq_true.mpr fun c hc => decide_eq_true ?_
    have := sok_iff.mp h c hc
    omega
  | .tuple xs, h => gdL_lv h0 hm xs h
  | .list xs, h => gdL_lv h0 hm xs h
  | .dict kvs, h => gdK_lv h0 hm kvs h
theorem gdL_lv {m : Nat} (h0 : 0 < m) (hm : m ≤ 38) : ∀ (ds : List PyData), gdL m ds = true → PyData.leavesShortAll 40 ds = true
  | [], _ => rfl
  | d :: ds, h => by
    have h' := Bool.and_eq_true_iff.mp (show (gd m d && gdL m ds) = true from h)
    exact Bool.and_eq_true_iff.mpr ⟨gd_lv h0 hm d h'.1, gdL_lv h0 hm ds h'.2⟩
theorem gdK_lv {m : Nat} (h0 : 0 < m) (hm : m ≤ 38) : ∀ (ds : List (PyData × PyData)), gdK m ds = true → PyData.leavesShortKv 40 ds = true
  | [], _ => rfl
  | (k, d) :: ds, h => by
    have h' := Bool.and_eq_true_iff.mp (show ((gd m k && gd m d) && gdK m ds) = true from h)
    have h1 := Bool.and_eq_true_iff.mp h'.1
    exact Bool.and_eq_true_iff.mpr ⟨Bool.and_eq_true_iff.mpr ⟨gd_lv h0 hm k h1.1, gd_lv h0 hm d h1.2⟩, gdK_lv h0 hm ds h'.2⟩
end
/-- data that may stand in an odd thing: whole numbers below 10 ^ m, k deep at most -/
structure Od (m k : Nat) (d : D) : Prop where
  da : d.da = true
  g : gd m d.pyA = true
  dep : d.pyA.depth ≤ k
def wtD (d : D) : Nat := d.pyA.weight
def wtL : List D → Nat
  | [] => 0
  | d :: r => wtD d + 1 + wtL r
theorem wtL_eq : ∀ xs : List D, PyData.weightAll (D.pyAL xs) = wtL xs
  | [] => rfl
  | d :: r => by
    show d.pyA.weight + 1 + PyData.weightAll (D.pyAL r) = wtD d + 1 + wtL r
    rw [wtL_eq r]; rfl
theorem wtD_tup {xs : List D} : wtD (.tup xs) = wtL xs := wtL_eq xs
theorem wtD_lst {xs : List D} : wtD (.lst xs) = wtL xs := wtL_eq xs
theorem wtL_len : ∀ xs : List D, xs.length ≤ wtL xs
  | [] => Nat.le_refl _
  | d :: r => by
    have := wtL_len r
    show r.length + 1 ≤ wtD d + 1 + wtL r
    omega
theorem wtL_app : ∀ xs ys : List D, wtL (xs ++ ys) = wtL xs + wtL ys
  | [], ys => (Nat.zero_add _).symm
  | d :: r, ys => by
    show wtD d + 1 + wtL (r ++ ys) = wtD d + 1 + wtL r + wtL ys
    rw [wtL_app r ys]; omega
theorem wtL_drop (xs : List D) (n : Nat) : wtL (xs.drop n) ≤ wtL xs := by
  have := wtL_app (xs.take n) (xs.drop n)
  rw [List.take_append_drop] at this
  omega
theorem wtL_take (xs : List D) (n : Nat) : wtL (xs.take n) ≤ wtL xs := by
  have := wtL_app (xs.take n) (xs.drop n)
  rw [List.take_append_drop] at this
  omega
theorem wtL_cut (xs : List D) (lo hi : Option Int) : wtL (DL.cutD xs lo hi) ≤ wtL xs := Nat.le_trans (wtL_take _ _) (wtL_drop _ _)
theorem wtL_mem {d : D} : ∀ {xs : List D}, d ∈ xs → wtD d + 1 ≤ wtL xs
  | x :: r, h => by
    show wtD d + 1 ≤ wtD x + 1 + wtL r
    rcases List.mem_cons.mp h with rfl | h
    · omega
    · have := wtL_mem h; omega
theorem Od.rp {m k : Nat} {d : D} (h : Od m k d) (h0 : 0 < m) (hm : m ≤ 38) (hk : k ≤ 60) (hw : wtD d ≤ 300000) : Rp 60 16000000 d where
  da := h.da
  sh := gd_sh hm _ h.g
  dep := Nat.le_trans h.dep hk
  len := by
    have e : d.pyA.weight ≤ 300000 := hw
    have := PyData.shown_le 40 (by decide) d.pyA (gd_lv h0 hm _ h.g)
    omega
theorem Od.mono {m m' k k' : Nat} {d : D} (h : Od m k d) (hm : ∀ p : PyData, gd m p = true → gd m' p = true) (hk : k ≤ k') : Od m' k' d := ⟨h.da, hm _ h.g, Nat.le_trans h.dep hk⟩
theorem Od.up {m k k' : Nat} {d : D} (h : Od m k d) (hk : k ≤ k') : Od m k' d := ⟨h.da, h.g, Nat.le_trans h.dep hk⟩
theorem gdL_iff {m : Nat} : ∀ {xs : List D}, gdL m (D.pyAL xs) = true ↔ ∀ x ∈ xs, gd m x.pyA = true
  | [] => ⟨fun _ x hx => absurd hx List.not_mem_nil, fun _ => rfl⟩
  | d :: r => by
    show (gd m d.pyA && gdL m (D.pyAL r)) = true ↔ _
    rw [Bool.and_eq_true, gdL_iff, List.forall_mem_cons]
theorem depL_iff {k : Nat} : ∀ {xs : List D}, PyData.depthAll (D.pyAL xs) ≤ k ↔ ∀ x ∈ xs, x.pyA.depth ≤ k
  | [] => ⟨fun _ x hx => absurd hx List.not_mem_nil, fun _ => Nat.zero_le _⟩
  | d :: r => by
    show max d.pyA.depth (PyData.depthAll (D.pyAL r)) ≤ k ↔ _
    rw [Nat.max_le, depL_iff, List.forall_mem_cons]
theorem Od.tup {m k : Nat} {xs : List D} (h : ∀ x ∈ xs, Od m k x) : Od m (k + 1) (.tup xs) where
  da := D.daL_of fun x hx => (h x hx).da
  g := gdL_iff.mpr fun x hx => (h x hx).g
  dep := Nat.succ_le_succ (depL_iff.mpr fun x hx => (h x hx).dep)
theorem Od.lst {m k : Nat} {xs : List D} (h : ∀ x ∈ xs, Od m k x) : Od m (k + 1) (.lst xs) where
  da := D.daL_of fun x hx => (h x hx).da
  g := gdL_iff.mpr fun x hx => (h x hx).g
  dep := Nat.succ_le_succ (depL_iff.mpr fun x hx => (h x hx).dep)
theorem Od.els {m k : Nat} {xs : List D} (h : Od m k (.tup xs)) : ∀ x ∈ xs, Od m k x := fun x hx =>
  ⟨D.daL_mem h.da x hx, gdL_iff.mp h.g x hx, Nat.le_trans (depL_iff.mp (Nat.le_refl _) x hx) (Nat.le_of_succ_le h.dep)⟩
theorem Od.int {m k : Nat} {i : Int} (h : i.natAbs < 10 ^ m) : Od m k (.int i) := ⟨rfl, decide_eq_true h, Nat.zero_le _⟩
theorem Od.bl {m k : Nat} {b : Bool} : Od m k (.bl b) := ⟨rfl, rfl, Nat.zero_le _⟩
theorem Od.non {m k : Nat} : Od m k .non := ⟨rfl, rfl, Nat.zero_le _⟩
theorem Od.str {m k : Nat} {x : PySem.Str} (h : PyData.strOk x = true) : Od m k (.str x) := ⟨rfl, h, Nat.zero_le _⟩
theorem Od.dic0 {m k : Nat} : Od m (k + 1) (.dic []) := ⟨rfl, rfl, Nat.succ_le_succ (Nat.zero_le _)⟩
/-- str of it -/
theorem Od.text {m k : Nat} {d : D} (h : Od m k d) : Od m k (.str (strT d)) := .str (by
  cases d with
  | str x => exact h.g
  | _ => exact gd_sok _ h.g)
theorem wt_text {m k : Nat} {d : D} (h : Od m k d) (h0 : 0 < m) (hm : m ≤ 38) : wtD (.str (strT d)) ≤ 42 * wtD d + 40 := by
  have key : (d.pyA.shown).length ≤ 42 * wtD d + 40 := PyData.shown_le 40 (by decide) d.pyA (gd_lv h0 hm _ h.g)
  cases d with
  | str x =>
    show x.cps.size ≤ 42 * x.cps.size + 40
    omega
  | _ => exact key
mutual
theorem gd_up {m m' : Nat} (hm : m ≤ m') : ∀ (d : PyData), gd m d = true → gd m' d = true
  | .none, _ => rfl
  | .bool b, _ => rfl
  | .int i, h => decide_eq_true (Nat.lt_of_lt_of_le (of_decide_eq_true h) (Nat.pow_le_pow_right (by decide) hm))
  | .str x, h => h
  | .tuple xs, h => gdL_up hm xs h
  | .list xs, h => gdL_up hm xs h
  | .dict kvs, h => gdK_up hm kvs h
theorem gdL_up {m m' : Nat} (hm : m ≤ m') : ∀ (ds : List PyData), gdL m ds = true → gdL m' ds = true
  | [], _ => rfl
  | d :: ds, h => by
    have h' := Bool.and_eq_true_iff.mp (show (gd m d && gdL m ds) = true from h)
    exact Bool.and_eq_true_iff.mpr ⟨gd_up hm d h'.1, gdL_up hm ds h'.2⟩
theorem gdK_up {m m' : Nat} (hm : m ≤ m') : ∀ (ds : List (PyData × PyData)), gdK m ds = true → gdK m' ds = true
  | [], _ => rfl
  | (k, d) :: ds, h => by
    have h' := Bool.and_eq_true_iff.mp (show ((gd m k && gd m d) && gdK m ds) = true from h)
    have h1 := Bool.and_eq_true_iff.mp h'.1
    exact Bool.and_eq_true_iff.mpr ⟨Bool.and_eq_true_iff.mpr ⟨gd_up hm k h1.1, gd_up hm d h1.2⟩, gdK_up hm ds h'.2⟩
end
theorem Od.upm {m m' k k' : Nat} {d : D} (h : Od m k d) (hm : m ≤ m') (hk : k ≤ k') : Od m' k' d := ⟨h.da, gd_up hm _ h.g, Nat.le_trans h.dep hk⟩
theorem wt_int {i : Int} {k : Nat} (h : i.natAbs < 2 ^ k) : wtD (.int i) ≤ k := by
  show (if i == 0 then 0 else i.natAbs.log2 + 1) ≤ k
  split
  · exact Nat.zero_le _
  · rename_i z
    have z : i.natAbs ≠ 0 := fun e => z (by rw [Int.natAbs_eq_zero.mp e]; rfl)
    exact (Nat.log2_lt z).mpr h
theorem wt_int10 {i : Int} {m : Nat} (h : i.natAbs < 10 ^ m) (hm : m ≤ 38) : wtD (.int i) ≤ 127 := wt_int (by
  have e : (10 : Nat) ^ m ≤ 10 ^ 38 := Nat.pow_le_pow_right (by decide) hm
  have : (10 : Nat) ^ 38 < 2 ^ 127 := by decide +kernel
  omega)
/-- what becomes of one thing -/
structure OneCh (m k n : Nat) (d : D) : Prop where
  od : Od m k d
  wt : wtD d ≤ n
theorem OneCh.int {m k n : Nat} {i : Int} (h : i.natAbs < 10 ^ m) (hm : m ≤ 38) (hn : 127 ≤ n) : OneCh m k n (.int i) := ⟨.int h, Nat.le_trans (wt_int10 h hm) hn⟩
def fs_l_one_changed (K : PySem.W.Frag) : FS := fun ds M Q _ => ∃ (a : Addr) (d : D) (m k : Nat), ds = [.ref a, d] ∧ M a = some .st ∧ Od m k d ∧ 31 ≤ m ∧ m ≤ 36 ∧ k ≤ 50 ∧ wtD d ≤ 300000 ∧ ∀ d', OneCh (m + 1) (k + 1) (42 * wtD d + 200) d' → Q d' M
theorem mo_l_one_changed {K : PySem.W.Frag} : MonoF (fs_l_one_changed K) := fun _ _ _ _ _ _ h _ ⟨a, d, m, k, e1, e2, e3, e4, e5, e6, e7, q⟩ => ⟨a, d, m, k, e1, e2, e3, e4, e5, e6, e7, fun d' z => h _ _ (q d' z)⟩
/-- _law_one_changed -/
def af1_l_one_changed (K : PySem.W.Frag) : GS := gRet (gCallM (fs_l_pick K) (gCons (gV 0) (gCons (gV 2) gNil)))
def g_l_one_changed (K : PySem.W.Frag) : GS := gSeq (gSet 2 (gLst (gCons (g2 goEqI (gV 1) (gC (.int 1))) (gCons (gCa gcStrA (gCons (gV 1) gNil)) (gCons (gC .non) (gCons (gTup (gCons (gV 1) gNil)) (gCons (gLst (gCons (gV 1) gNil)) (gCons (gC (.int 1000000)) (gCons (g1 guNeg (gC (.int 1))) (gCons (gTup (gNil)) (gCons (gC (.str "")) (gCons (gDic0) (gCons (g2 goPow (gC (.int 10)) (gC (.int 30))) gNil))))))))))))) (gSeq (gIfS (gTru (gCa gcIsi (gCons (gV 1) (gCons (gC (.ty "int")) gNil)))) (gSet 2 (g2 goAdd (gV 2) (gLst (gCons (g2 goAddB (gV 1) (gC (.int 1))) (gCons (g2 goSubB (gV 1) (gC (.int 1))) (gCons (g1 guNegB (gV 1)) (gCons (g2 goSubB (g1 guNeg (gC (.int 1))) (gV 1)) (gCons (g2 goMulB (gV 1) (gC (.int 10))) (gCons (g2 goAddB (gV 1) (gC (.int 1))) (gCons (g2 goSubB (gV 1) (gC (.int 1))) gNil)))))))))) (gNext)) (af1_l_one_changed K))
theorem one_base {m k : Nat} {d : D} (h : Od m k d) (h1 : 31 ≤ m) (h2 : m ≤ 36) {b : Bool} : ∀ z ∈ [D.bl b, .str (strT d), .non, .tup [d], .lst [d], .int 1000000, .int (-1), .tup [], .str (""), .dic [], .int 1000000000000000000000000000000], OneCh (m + 1) (k + 1) (42 * wtD d + 200) z := by
  have up : Od (m + 1) k d := h.upm (by omega) (by omega)
  have one : ∀ x ∈ [d], Od (m + 1) k x := fun x hx => by rw [List.mem_singleton.mp hx]; exact up
  have w1 : wtL [d] = wtD d + 1 := rfl
  have p : ∀ {i : Int}, i.natAbs < 10 ^ 31 → i.natAbs < 10 ^ (m + 1) := fun {i} hi => Nat.lt_of_lt_of_le hi (Nat.pow_le_pow_right (by decide) (by omega))
  intro z hz
  simp only [List.mem_cons, List.not_mem_nil, or_false] at hz
  rcases hz with rfl | rfl | rfl | rfl | rfl | rfl | rfl | rfl | rfl | rfl | rfl
  · exact ⟨.bl, Nat.zero_le _⟩
  · exact ⟨up.text.up (by omega), Nat.le_trans (wt_text h (by omega) (by omega)) (by omega)⟩
  · exact ⟨.non, Nat.zero_le _⟩
  · exact ⟨.tup one, by rw [wtD_tup, w1]; omega⟩
  · exact ⟨.lst one, by rw [wtD_lst, w1]; omega⟩
  · exact .int (p (by decide)) (by omega) (by omega)
  · exact .int (p (by decide)) (by omega) (by omega)
  · exact ⟨.tup fun x hx => absurd hx List.not_mem_nil, Nat.zero_le _⟩
  · exact ⟨.str (by decide +kernel), Nat.zero_le _⟩
  · exact ⟨.dic0, Nat.zero_le _⟩
  · exact .int (p (by decide)) (by omega) (by omega)
theorem one_tail {a : Addr} {m k n : Nat} {d : D} {zs : List D} {M : Mem} {Q N : D → Mem → Prop} {X : Addr → Mem → Prop} (ms : M a = some .st) (hz : ∀ z ∈ zs, OneCh m k n z) (h0 : 0 < zs.length) (h1 : zs.length ≤ 1000) (q : ∀ d', OneCh m k n d' → Q d' M) : af1_l_one_changed K { nx := fun x M' => N .non M', rt := Q } ⟨[.v (.ref a), .v d, .v (.lst zs)], X⟩ M := by
  wp_walk using af1_l_one_changed
  exact pick_of (K := K) ms rfl h0 (by omega) fun z h => q z (hz z h)
theorem more_int {m k n : Nat} {i : Int} (h : i.natAbs < 10 ^ m) (hm : m ≤ 36) (hn : 127 ≤ n) : ∀ z ∈ [D.int (i + 1), .int (i - 1), .int (-i), .int (-1 - i), .int (i * 10), .int (i + 1), .int (i - 1)], OneCh (m + 1) k n z := by
  have e : 10 ^ (m + 1) = 10 * 10 ^ m := by rw [Nat.pow_succ, Nat.mul_comm]
  intro z hz
  simp only [List.mem_cons, List.not_mem_nil, or_false] at hz
  rcases hz with rfl | rfl | rfl | rfl | rfl | rfl | rfl <;> exact .int (by rw [e]; omega) (by omega) hn
theorem h_l_one_changed {K : PySem.W.Frag} : ∀ ds M Q X, (fs_l_one_changed K) ds M Q X → ds.length = ([.v, .v] : List AK).length → g_l_one_changed K { nx := fun _ M' => Q .non M', rt := Q } (entry 3 [.v, .v] ds X) M := by
  rintro ds M Q X ⟨a, d, m, k, rfl, ms, h, h1, h2, hk, hw, q⟩ -
  have base := fun b => one_base h h1 h2 (b := b)
  have rp := h.rp (by omega) (by omega) (by omega) hw
  have hi := D.isI_da h.da
  have c : CPow 10 30 := ⟨by decide, by decide, by decide⟩
  have sz : 18 ≤ sizeLine := size_of (by decide)
  cases d with
  | int i =>
    wp_walk using g_l_one_changed
    refine ⟨hi, rp, c, ?_, sz, one_tail ms (fun z hz => ?_) (Nat.zero_lt_succ _) (Nat.le_of_ble_eq_true rfl) q⟩
    · exact .inr ⟨by decide, by decide⟩
    · rcases List.mem_append.mp (show z ∈ [_, _, _, _, _, _, _, _, _, _, _] ++ [_, _, _, _, _, _, _] from hz) with hz | hz
      · exact base _ z hz
      · exact more_int (of_decide_eq_true h.g) h2 (by omega) z hz
  | bl b =>
    wp_walk using g_l_one_changed
    refine ⟨hi, rp, c, sz, one_tail ms (fun z hz => ?_) (Nat.zero_lt_succ _) (Nat.le_of_ble_eq_true rfl) q⟩
    rcases List.mem_append.mp (show z ∈ [_, _, _, _, _, _, _, _, _, _, _] ++ [_, _, _, _, _, _, _] from hz) with hz | hz
    · exact base _ z hz
    · refine more_int (i := bI b) ?_ h2 (by omega) z hz
      have e : (bI b).natAbs ≤ 1 := by cases b <;> decide
      have : 1 < 10 ^ m := Nat.one_lt_pow (by omega) (by decide)
      omega
  | tup xs =>
    wp_walk using g_l_one_changed
    exact ⟨hi, rp, c, one_tail ms (base _) (Nat.zero_lt_succ _) (Nat.le_of_ble_eq_true rfl) q⟩
  | lst xs =>
    wp_walk using g_l_one_changed
    exact ⟨hi, rp, c, one_tail ms (base _) (Nat.zero_lt_succ _) (Nat.le_of_ble_eq_true rfl) q⟩
  | dic xs =>
    wp_walk using g_l_one_changed
    exact ⟨hi, rp, c, one_tail ms (base _) (Nat.zero_lt_succ _) (Nat.le_of_ble_eq_true rfl) q⟩
  | str xs =>
    wp_walk using g_l_one_changed
    exact ⟨hi, rp, c, one_tail ms (base _) (Nat.zero_lt_succ _) (Nat.le_of_ble_eq_true rfl) q⟩
  | non =>
    wp_walk using g_l_one_changed
    exact ⟨hi, rp, c, one_tail ms (base _) (Nat.zero_lt_succ _) (Nat.le_of_ble_eq_true rfl) q⟩
  | ty n => cases h.da
  | ref n => cases h.da
def fs_l_changed (K : PySem.W.Frag) : FS := fun ds M Q _ => ∃ (a : Addr) (d : D) (m k e : Nat), ds = [.ref a, d] ∧ M a = some .st ∧ Od m k d ∧ 31 ≤ m ∧ m ≤ 35 ∧ 1 ≤ k ∧ k ≤ 40 ∧ wtD d ≤ 240000 ∧ (∀ xs, d = .tup xs → ∀ x ∈ xs, wtD x ≤ e) ∧ ∀ d', OneCh (m + 1) (k + 2) (4 * wtD d + 42 * e + 400) d' → Q d' M
theorem mo_l_changed {K : PySem.W.Frag} : MonoF (fs_l_changed K) := fun _ _ _ _ _ _ h _ ⟨a, d, m, k, e, e1, e2, e3, e4, e5, e6, e7, e8, e9, q⟩ => ⟨a, d, m, k, e, e1, e2, e3, e4, e5, e6, e7, e8, e9, fun d' z => h _ _ (q d' z)⟩
/-- _law_changed -/
def af1_l_changed (K : PySem.W.Frag) : GS := gRet (g2 goAdd (g2 goAdd (gsSl true (gV 1) (gNoP) (gPart (gV 2))) (gTup (gCons (gCallM (fs_l_one_changed K) (gCons (gV 0) (gCons (g2 goIx (gV 1) (gV 2)) gNil))) gNil))) (gsSl true (gV 1) (gPart (g2 goAdd (gV 2) (gC (.int 1)))) (gNoP)))
def af2_l_changed (K : PySem.W.Frag) : GS := gSeq (gIfS (gB (g2 goEqA (gV 2) (gCa gcLen (gCons (gV 1) gNil)))) (gRet (g2 goAdd (gV 1) (gsSl true (gV 1) (gNoP) (gPart (gC (.int 1)))))) (gNext)) (af1_l_changed K)
def af3_l_changed (K : PySem.W.Frag) : GS := gSeq (gIfS (gB (g2 goEqA (gV 3) (gC (.int 4)))) (gSeq (gSet 5 (gLst (gCons (gFd (gFlist (gV 1))) (gCons (gTup (gCons (gV 1) gNil)) (gCons (gLst (gCons (gV 1) gNil)) gNil))))) (gRet (gCallM (fs_l_pick K) (gCons (gV 0) (gCons (g2 goAdd (gV 5) (gLst (gCons (gC .non) (gCons (gC (.int 5)) (gCons (gC (.str "row")) (gCons (gDic0) (gCons (gDispV (gPconsI 7 (gC (.int 8)) (gPnil))) (gCons (gC (.bl true)) gNil)))))))) gNil))))) (gNext)) (af2_l_changed K)
def af4_l_changed (K : PySem.W.Frag) : GS := gSeq (gIfS (gB (g2 goEqA (gV 3) (gC (.int 3)))) (gRet (g2 goAdd (g2 goAdd (gsSl true (gV 1) (gNoP) (gPart (gV 2))) (gTup (gCons (gCallM (fs_l_one_changed K) (gCons (gV 0) (gCons (gC (.int 7)) gNil))) gNil))) (gsSl true (gV 1) (gPart (gV 2)) (gNoP)))) (gNext)) (af3_l_changed K)
def af5_l_changed (K : PySem.W.Frag) : GS := gSeq (gIfS (gB (g2 goEqA (gV 3) (gC (.int 2)))) (gSeq (gSet 4 (g2 goAdd (gsSl true (gV 1) (gPart (g2 goAdd (gV 2) (gC (.int 1)))) (gPart (g2 goAdd (gV 2) (gC (.int 2))))) (gsSl true (gV 1) (gPart (gV 2)) (gPart (g2 goAdd (gV 2) (gC (.int 1))))))) (gRet (g2 goAdd (g2 goAdd (gsSl true (gV 1) (gNoP) (gPart (gV 2))) (gV 4)) (gsSl true (gV 1) (gPart (g2 goAdd (gV 2) (gC (.int 2)))) (gNoP))))) (gNext)) (af4_l_changed K)
def af6_l_changed (K : PySem.W.Frag) : GS := gSeq (gIfS (gB (g2 goEqA (gV 3) (gC (.int 1)))) (gRet (g2 goAdd (g2 goAdd (gsSl true (gV 1) (gNoP) (gPart (gV 2))) (gsSl true (gV 1) (gPart (gV 2)) (gPart (g2 goAdd (gV 2) (gC (.int 1)))))) (gsSl true (gV 1) (gPart (gV 2)) (gNoP)))) (gNext)) (af5_l_changed K)
def cu1_l_changed (K : PySem.W.Frag) : GS := gSeq (gIfS (gB (g2 goEqA (gV 3) (gC (.int 0)))) (gRet (g2 goAdd (gsSl true (gV 1) (gNoP) (gPart (gV 2))) (gsSl true (gV 1) (gPart (g2 goAdd (gV 2) (gC (.int 1)))) (gNoP)))) (gNext)) (af6_l_changed K)
def cu2_l_changed (K : PySem.W.Frag) : GS := gSeq (gSet 3 (gCallM (fs_l_take K) (gCons (gV 0) (gCons (gC (.int 9)) gNil)))) (cu1_l_changed K)
def af7_l_changed (K : PySem.W.Frag) : GS := gSeq (gSet 2 (gCallM (fs_l_take K) (gCons (gV 0) (gCons (g2 goAdd (gCa gcLen (gCons (gV 1) gNil)) (gC (.int 1))) gNil)))) (cu2_l_changed K)
def g_l_changed (K : PySem.W.Frag) : GS := gSeq (gIfS (gNot (gTru (gCa gcIsi (gCons (gV 1) (gCons (gC (.ty "tuple")) gNil))))) (gRet (gV 1)) (gNext)) (af7_l_changed K)
/-- the elements of a changed tuple -/
structure Els (m k n : Nat) (xs : List D) : Prop where
  od : ∀ x ∈ xs, Od m k x
  wt : wtL xs ≤ n
theorem Els.cut {m k n : Nat} {xs : List D} (h : Els m k n xs) (lo hi : Option Int) : Els m k n (DL.cutD xs lo hi) := ⟨fun x hx => h.od x (List.mem_of_mem_drop (List.mem_of_mem_take hx)), Nat.le_trans (wtL_cut ..) h.wt⟩
theorem Els.app {m k n n2 : Nat} {xs ys : List D} (h : Els m k n xs) (h2 : Els m k n2 ys) : Els m k (n + n2) (xs ++ ys) := ⟨fun x hx => (List.mem_append.mp hx).elim (h.od x) (h2.od x), by rw [wtL_app]; have := h.wt; have := h2.wt; omega⟩
theorem Els.one {m k n : Nat} {d : D} (h : OneCh m k n d) : Els m k (n + 1) [d] := ⟨fun x hx => by rw [List.mem_singleton.mp hx]; exact h.od, by show wtD d + 1 + 0 ≤ n + 1; have := h.wt; omega⟩
theorem Els.tup {m k n n' : Nat} {xs : List D} (h : Els m k n xs) (hn : n ≤ n') : OneCh m (k + 1) n' (.tup xs) := ⟨.tup h.od, by rw [wtD_tup]; exact Nat.le_trans h.wt hn⟩
structure Cd (a : Addr) (m k e : Nat) (xs : List D) (M : Mem) (Q : D → Mem → Prop) : Prop where
  ms : M a = some .st
  od : ∀ x ∈ xs, Od m k x
  h1 : 31 ≤ m
  h2 : m ≤ 35
  k2 : k ≤ 40
  wt : wtL xs ≤ 240000
  we : ∀ x ∈ xs, wtD x ≤ e
  fin : ∀ d', OneCh (m + 1) (k + 2) (4 * wtL xs + 42 * e + 400) d' → Q d' M
section
variable {a : Addr} {m k e : Nat} {xs : List D} {M : Mem} {Q N : D → Mem → Prop} {X : Addr → Mem → Prop} {at_ w : Int} {x4 x5 : Sl}
theorem Cd.len (h : Cd a m k e xs M Q) : xs.length ≤ 240000 := Nat.le_trans (wtL_len xs) h.wt
theorem Cd.sz (h : Cd a m k e xs M Q) (lo hi : Option Int) : (DL.cutD xs lo hi).length ≤ 240000 := Nat.le_trans (by unfold DL.cutD; rw [List.length_take, List.length_drop]; omega) h.len
theorem Cd.els (h : Cd a m k e xs M Q) : Els (m + 1) (k + 1) (wtL xs) xs := ⟨fun x hx => (h.od x hx).upm (by omega) (by omega), Nat.le_refl _⟩
def frC (a : Addr) (xs : List D) (at_ w : Int) (x4 x5 : Sl) (X : Addr → Mem → Prop) : DL.Fr := ⟨[.v (.ref a), .v (.tup xs), .v (.int at_), .v (.int w), x4, x5], X⟩
theorem Cd.cut (h : Cd a m k e xs M Q) (lo hi : Option Int) : Els (m + 1) (k + 1) (wtL xs) (DL.cutD xs lo hi) := h.els.cut lo hi
theorem Cd.tup (h : Cd a m k e xs M Q) {n : Nat} {ys : List D} (hy : Els (m + 1) (k + 1) n ys) (hn : n ≤ 4 * wtL xs + 42 * e + 400) : Q (.tup ys) M := h.fin _ (hy.tup hn)
theorem one_dr {d : D} {Q : D → Mem → Prop} (ms : M a = some .st) (hd : Od m k d) (h1 : 31 ≤ m) (h2 : m ≤ 36) (hk : k ≤ 50) (hw : wtD d ≤ 300000) (q : ∀ d', OneCh (m + 1) (k + 1) (42 * wtD d + 200) d' → Q d' M) : fs_l_one_changed K [.ref a, d] M Q X := ⟨a, d, m, k, rfl, ms, hd, h1, h2, hk, hw, q⟩
theorem cd1 (h : Cd a m k e xs M Q) (h0 : 0 ≤ at_) (hl : at_ < xs.length) : af1_l_changed K { nx := fun _ M' => N .non M', rt := Q } (frC a xs at_ w x4 x5 X) M := by
  have s1 := h.sz none (some at_)
  have s2 := h.sz (some (at_ + 1)) none
  unfold frC
  wp_walk using af1_l_changed
  obtain ⟨z, ez, hm, _⟩ := DL.atI_in h0 hl
  rw [ez]
  have w1 := h.we _ hm
  have w2 := wtL_mem hm
  have w3 := h.wt
  refine one_dr (K := K) h.ms (h.od _ hm) h.h1 (by have := h.h2; omega) (by have := h.k2; omega) (by omega) fun d hd => ?_
  exact ⟨size_of (by omega), size_of (by omega), h.tup (((h.cut _ _).app (Els.one ⟨hd.od, hd.wt⟩)).app (h.cut _ _)) (by omega)⟩
theorem cd2 (h : Cd a m k e xs M Q) (h0 : 0 ≤ at_) (hl : at_ ≤ xs.length) : af2_l_changed K { nx := fun _ M' => N .non M', rt := Q } (frC a xs at_ w x4 x5 X) M := by
  have k := fun z => cd1 (K := K) (N := N) (at_ := at_) (w := w) (X := X) (x4 := x4) (x5 := x5) h h0 z
  have s1 := h.sz none (some 1)
  have s2 := h.len
  unfold frC at k ⊢
  wp_walk using af2_l_changed
  by_cases h6 : at_ = (xs.length : Nat)
  · rw [if_pos h6]
    exact ⟨size_of (by omega), h.tup (h.els.app (h.cut _ _)) (by omega)⟩
  rw [if_neg h6]
  exact k (by omega)
theorem cd3 {k' : Nat} (h : Cd a m k' e xs M Q) (h0 : 0 ≤ at_) (hl : at_ ≤ xs.length) : af3_l_changed K { nx := fun _ M' => N .non M', rt := Q } (frC a xs at_ w x4 x5 X) M := by
  have k := cd2 (K := K) (N := N) (at_ := at_) (w := w) (X := X) (x4 := x4) (x5 := x5) h h0 hl
  unfold frC at k ⊢
  wp_walk using af3_l_changed
  by_cases h6 : w = 4
  · rw [if_pos h6]
    have up := h.els.od
    refine pick_of (K := K) h.ms rfl (Nat.zero_lt_succ _) (Nat.le_of_ble_eq_true rfl) fun z hz => h.fin z ?_
    have tp : Od (m + 1) (k' + 1) (.tup xs) := Od.tup fun x hx => (h.od x hx).upm (by omega) (Nat.le_refl _)
    have w1 : wtL [D.tup xs] = wtL xs + 1 := by show wtD (.tup xs) + 1 + 0 = _; rw [wtD_tup]
    have one : ∀ x ∈ [D.tup xs], Od (m + 1) (k' + 1) x := fun x hx => by rw [List.mem_singleton.mp hx]; exact tp
    simp only [List.mem_cons, List.not_mem_nil, or_false] at hz
    rcases hz with rfl | rfl | rfl | rfl | rfl | rfl | rfl | rfl | rfl
    · exact ⟨Od.lst up, by rw [wtD_lst]; omega⟩
    · exact ⟨Od.tup one, by rw [wtD_tup, w1]; omega⟩
    · exact ⟨Od.lst one, by rw [wtD_lst, w1]; omega⟩
    · exact ⟨.non, Nat.zero_le _⟩
    · exact ⟨.int (Nat.lt_of_lt_of_le (by decide) (Nat.pow_le_pow_right (n := 10) (i := 1) (by decide) (by omega))), by have : wtD (.int 5) = 3 := rfl; omega⟩
    · exact ⟨.str (by decide +kernel), by have : wtD (.str ("row" : PySem.Str)) = 3 := rfl; omega⟩
    · exact ⟨.dic0, Nat.zero_le _⟩
    · exact ⟨⟨rfl, gd_up (m := 1) (by omega) _ (by decide +kernel), Nat.succ_le_succ (Nat.zero_le _)⟩, by have : wtD (.dic (mergeD [] [(Sum.inl 7, D.int 8)])) = 9 := rfl; omega⟩
    · exact ⟨.bl, Nat.zero_le _⟩
  rw [if_neg h6]
  exact k
theorem cd4 (h : Cd a m k e xs M Q) (h0 : 0 ≤ at_) (hl : at_ ≤ xs.length) : af4_l_changed K { nx := fun _ M' => N .non M', rt := Q } (frC a xs at_ w x4 x5 X) M := by
  have k := cd3 (K := K) (N := N) (at_ := at_) (w := w) (X := X) (x4 := x4) (x5 := x5) h h0 hl
  have s1 := h.sz none (some at_)
  have s2 := h.sz (some at_) none
  unfold frC at k ⊢
  wp_walk using af4_l_changed
  by_cases h6 : w = 3
  · rw [if_pos h6]
    refine one_dr (K := K) (k := 0) h.ms (Od.int (Nat.lt_of_lt_of_le (by decide) (Nat.pow_le_pow_right (n := 10) (by decide) h.h1))) h.h1 (by have := h.h2; omega) (by decide) (by decide) fun d hd => ?_
    wp_walk
    exact ⟨size_of (by omega), size_of (by omega), h.tup (((h.cut _ _).app (Els.one ⟨hd.od.up (by omega), hd.wt⟩)).app (h.cut _ _)) (by have : wtD (.int 7) = 3 := rfl; omega)⟩
  rw [if_neg h6]
  exact k
theorem cd5 (h : Cd a m k e xs M Q) (h0 : 0 ≤ at_) (hl : at_ ≤ xs.length) : af5_l_changed K { nx := fun _ M' => N .non M', rt := Q } (frC a xs at_ w .n .n X) M := by
  have k := cd4 (K := K) (N := N) (at_ := at_) (w := w) (X := X) (x4 := .n) (x5 := .n) h h0 hl
  have s1 := h.sz none (some at_)
  have s2 := h.sz (some (at_ + 1)) (some (at_ + 2))
  have s3 := h.sz (some at_) (some (at_ + 1))
  have s4 := h.sz (some (at_ + 2)) none
  unfold frC at k ⊢
  wp_walk using af5_l_changed
  by_cases h6 : w = 2
  · rw [if_pos h6]
    exact ⟨size_of (by omega), size_of (by omega), size_of (by omega), h.tup (((h.cut _ _).app ((h.cut _ _).app (h.cut _ _))).app (h.cut _ _)) (by omega)⟩
  rw [if_neg h6]
  exact k
theorem cd6 (h : Cd a m k e xs M Q) (h0 : 0 ≤ at_) (hl : at_ ≤ xs.length) : af6_l_changed K { nx := fun _ M' => N .non M', rt := Q } (frC a xs at_ w .n .n X) M := by
  have k := cd5 (K := K) (N := N) (at_ := at_) (w := w) (X := X) h h0 hl
  have s1 := h.sz none (some at_)
  have s2 := h.sz (some at_) (some (at_ + 1))
  have s3 := h.sz (some at_) none
  unfold frC at k ⊢
  wp_walk using af6_l_changed
  by_cases h6 : w = 1
  · rw [if_pos h6]
    exact ⟨size_of (by omega), size_of (by omega), h.tup (((h.cut _ _).app (h.cut _ _)).app (h.cut _ _)) (by omega)⟩
  rw [if_neg h6]
  exact k
theorem cd7 (h : Cd a m k e xs M Q) (h0 : 0 ≤ at_) (hl : at_ ≤ xs.length) : cu1_l_changed K { nx := fun _ M' => N .non M', rt := Q } (frC a xs at_ w .n .n X) M := by
  have k := cd6 (K := K) (N := N) (at_ := at_) (w := w) (X := X) h h0 hl
  have s1 := h.sz none (some at_)
  have s2 := h.sz (some (at_ + 1)) none
  unfold frC at k ⊢
  wp_walk using cu1_l_changed
  by_cases h6 : w = 0
  · rw [if_pos h6]
    exact ⟨size_of (by omega), h.tup ((h.cut _ _).app (h.cut _ _)) (by omega)⟩
  rw [if_neg h6]
  exact k
end
theorem h_l_changed {K : PySem.W.Frag} : ∀ ds M Q X, (fs_l_changed K) ds M Q X → ds.length = ([.v, .v] : List AK).length → g_l_changed K { nx := fun _ M' => Q .non M', rt := Q } (entry 6 [.v, .v] ds X) M := by
  rintro ds M Q X ⟨a, d, m, k, e, rfl, ms, h, h1, h2, k1, k2, hw, he, q⟩ -
  cases d with
  | tup xs =>
    have c : Cd a m k e xs M Q := ⟨ms, h.els, h1, h2, k2, by rw [← wtD_tup]; exact hw, he xs rfl, fun d' z => q d' (by rw [wtD_tup]; exact z)⟩
    have hl := c.len
    wp_walk using g_l_changed, af7_l_changed
    refine take_of (K := K) ms (by omega) (by omega) fun t t0 t1 => ?_
    wp_walk using cu2_l_changed
    refine take_of (K := K) ms (by omega) (by omega) fun w w0 w1 => ?_
    wp_walk
    exact cd7 c t0 (by omega)
  | ty n => cases h.da
  | ref n => cases h.da
  | _ =>
    wp_walk using g_l_changed
    exact q _ ⟨h.upm (by omega) (by omega), by omega⟩
end LW
namespace LW
open PySem PySem.Spec PySem.W PyProof.Rows L2 DL
local macro_rules | `(tactic| wp_walk) => `(tactic| simp only [gSeq, gSet, gRet, gRetN, gNext, gIfS, gDrop, gOwn, gApp, gExt, gForM, gLcM, gCnt, gTryV, gTryE, gxP, gxM, DL.Fr.mute, gIPut, gFrz, frz, gAsg, gPar, gPar3, gAug, gRaise, gRetM, gSetM, gMPut, gMGet, g1, g2, gC, gV, gVw, gB, gAnd, gOr, gNot, gNotV, gIf, DL.gCons, DL.gNil, DL.gTup, DL.gLst, gFl, gFd, gCa, gLenS, gPart, gNoP, gDisp, gPcons, gPnil, gtN, gtTup, gtCons, gtNil, gYes, gFor, gLc, giS, gCallP, gCallM, gScr, entry, aSls, aSl, DL.Fr.set, OM.d, wipeF, wipeS, keyD, List.length_cons, List.length_nil, List.cons_append, List.nil_append, List.append_nil, List.replicate_succ, List.replicate_zero, List.getElem?_cons_zero, List.getElem?_cons_succ, List.getElem?_nil, List.set_cons_zero, List.set_cons_succ, Nat.reduceAdd, Nat.reduceSub, if_true, if_false, ite_true, ite_false, reduceIte, Bool.false_eq_true, Bool.not_true, Bool.not_false, List.all_cons, List.all_nil, Bool.and_true, true_and, and_true, List.map_cons, List.map_nil, gIdx, ixT_ints, intsOf_map, Int.reduceToNat, Option.some.injEq, exists_eq_left', goAdd_int, goAdd_str, goAdd_tup, goAdd_lst, goAddW_int, goAddW_lst, goPlus_int, goI_int, guI_int, gcI1_int, goIx_lst, gcLen_lst, gcTupleS_lst, gcList_lst, goRevA_lst, goIx_tup, gcLen_tup, gcTupleS_tup, gcList_tup, goRevA_tup, gcTuple_lst, goIx_str, gcLen_str, gcInt_int, gcInt_bl, goMulT_tup, goMulL_lst, goIsB_bl, goIsN_non, isN_int, isN_bl, isN_str, isN_tup, isN_lst, isN_dic, isN_ref, isN_ty, isN_non, gTru_k, truK_non, truK_bl, truK_int, truK_lst, truK_tup, truK_str, gFlist_k, lstK_lst, lstK_tup, gsSl_k, slK_lst, slK_tup, slK_str, itsD_k, itsK_lst, itsK_tup, giZip_k, zipK_lst, zipK_tup, giR1_k, ran1K_nat, ran1K_int, giR2_k, ran2K_int, goLtA_int, goLtA_tup, ok_non, eqv_bl, goEq_int, goNe_int, goEq_bl, goNe_bl, gcMin_ints, gcMinT_ints, gcMax_ints, gcMaxT_ints, intsOf_mapf, blsOf_mapf, gcMin_f, gcMax_f, gcMin_2, gcMax_2, gcSum_ints, gcSum_f, gcBls_f, all_mapid, any_mapid, at_0, at_1, at_2, at_3, at_last, noOwn_nil, noOwn_1, noOwn_2, nof_n, nof_v, nof_b, nof_s, zipD_map, enumD_map, isi_non_int, isi_non_bool, isi_non_str, isi_non_tuple, isi_non_list, isi_non_dict, isi_bl_int, isi_bl_bool, isi_bl_str, isi_bl_tuple, isi_bl_list, isi_bl_dict, isi_int_int, isi_int_bool, isi_int_str, isi_int_tuple, isi_int_list, isi_int_dict, isi_str_int, isi_str_bool, isi_str_str, isi_str_tuple, isi_str_list, isi_str_dict, isi_tup_int, isi_tup_bool, isi_tup_str, isi_tup_tuple, isi_tup_list, isi_tup_dict, isi_lst_int, isi_lst_bool, isi_lst_str, isi_lst_tuple, isi_lst_list, isi_lst_dict, isi_dic_int, isi_dic_bool, isi_dic_str, isi_dic_tuple, isi_dic_list, isi_dic_dict, gcAll, gcAny, goMod, goFdiv, decide_eq_true_eq, Bool.not_eq_true', decide_eq_false_iff_not, ite_not, Bool.and_eq_true, not_false_eq_true, Bool.not_eq_true, List.map_append, Int.zero_add, List.any_cons, List.any_nil, Bool.true_and, Bool.or_false, Bool.xor_false, Bool.false_xor, Bool.true_xor, Bool.not_not, forall_const, Int.toNat_natCast, List.length_map, List.length_append, and_self, ne_eq, List.map_eq_nil_iff, not_true_eq_false, eq_self, goMulI, goSub, goPow, goLe, goGt, goGe, guNeg, gcAbs, goEq_str, goNe_str, goEq_tup, goNe_tup, goEq_lst, goNe_lst, goEq_non, goNe_non, gAndV_k, gOrV_k, gCh_k, blK_bl, ite_bf, reduceCtorEq, Int.reducePow, Int.reduceLT, Int.reduceLE, Int.reduceNeg, sz0, se0, sz1, se1, sz2, se2, sz3, se3, sz4, se4, sz5, se5, sz6, se6, sz7, se7, sz8, se8, sz9, se9, gFld, fldK_ref, gPutF, gPutFM, putFK_ref, gDrf, drfK_ref, gMApp, mlK_ref, gMPop, popK_int, gMIns, ins2K_2, insK_int, gMeth, mthK_ref, gMake, giR3, gFlR1, gFlR2, rg2K_int, gLenSet, lenSetK_lst, lenSetK_tup, gMinD, minDK_lst, giMem, giBA, gMIdx, goTab, gFsort, sortK_lst, sortK_tup, gStep, stepK_lst, gAppM, gDictV, gFdict, dictK_lst, dictK_tup, dictK_dic, gDic0, gFdic0, gDGet1, gDGet2, dicK_dic, gOPut, gOPop, giKeys, gPconsI, gDispV, goIx_dic, gcLen_dic, lstK_dic, truK_dic, getK, dgetK, gOIns, ins2K_2, insK_int, gCallL, gAct, gxAct, gLamT, lamS, lam1, entryL])
local macro_rules | `(tactic| wp_walk using $ts,*) => `(tactic| simp only [$[$ts:term],*, gSeq, gSet, gRet, gRetN, gNext, gIfS, gDrop, gOwn, gApp, gExt, gForM, gLcM, gCnt, gTryV, gTryE, gxP, gxM, DL.Fr.mute, gIPut, gFrz, frz, gAsg, gPar, gPar3, gAug, gRaise, gRetM, gSetM, gMPut, gMGet, g1, g2, gC, gV, gVw, gB, gAnd, gOr, gNot, gNotV, gIf, DL.gCons, DL.gNil, DL.gTup, DL.gLst, gFl, gFd, gCa, gLenS, gPart, gNoP, gDisp, gPcons, gPnil, gtN, gtTup, gtCons, gtNil, gYes, gFor, gLc, giS, gCallP, gCallM, gScr, entry, aSls, aSl, DL.Fr.set, OM.d, wipeF, wipeS, keyD, List.length_cons, List.length_nil, List.cons_append, List.nil_append, List.append_nil, List.replicate_succ, List.replicate_zero, List.getElem?_cons_zero, List.getElem?_cons_succ, List.getElem?_nil, List.set_cons_zero, List.set_cons_succ, Nat.reduceAdd, Nat.reduceSub, if_true, if_false, ite_true, ite_false, reduceIte, Bool.false_eq_true, Bool.not_true, Bool.not_false, List.all_cons, List.all_nil, Bool.and_true, true_and, and_true, List.map_cons, List.map_nil, gIdx, ixT_ints, intsOf_map, Int.reduceToNat, Option.some.injEq, exists_eq_left', goAdd_int, goAdd_str, goAdd_tup, goAdd_lst, goAddW_int, goAddW_lst, goPlus_int, goI_int, guI_int, gcI1_int, goIx_lst, gcLen_lst, gcTupleS_lst, gcList_lst, goRevA_lst, goIx_tup, gcLen_tup, gcTupleS_tup, gcList_tup, goRevA_tup, gcTuple_lst, goIx_str, gcLen_str, gcInt_int, gcInt_bl, goMulT_tup, goMulL_lst, goIsB_bl, goIsN_non, isN_int, isN_bl, isN_str, isN_tup, isN_lst, isN_dic, isN_ref, isN_ty, isN_non, gTru_k, truK_non, truK_bl, truK_int, truK_lst, truK_tup, truK_str, gFlist_k, lstK_lst, lstK_tup, gsSl_k, slK_lst, slK_tup, slK_str, itsD_k, itsK_lst, itsK_tup, giZip_k, zipK_lst, zipK_tup, giR1_k, ran1K_nat, ran1K_int, giR2_k, ran2K_int, goLtA_int, goLtA_tup, ok_non, eqv_bl, goEq_int, goNe_int, goEq_bl, goNe_bl, gcMin_ints, gcMinT_ints, gcMax_ints, gcMaxT_ints, intsOf_mapf, blsOf_mapf, gcMin_f, gcMax_f, gcMin_2, gcMax_2, gcSum_ints, gcSum_f, gcBls_f, all_mapid, any_mapid, at_0, at_1, at_2, at_3, at_last, noOwn_nil, noOwn_1, noOwn_2, nof_n, nof_v, nof_b, nof_s, zipD_map, enumD_map, isi_non_int, isi_non_bool, isi_non_str, isi_non_tuple, isi_non_list, isi_non_dict, isi_bl_int, isi_bl_bool, isi_bl_str, isi_bl_tuple, isi_bl_list, isi_bl_dict, isi_int_int, isi_int_bool, isi_int_str, isi_int_tuple, isi_int_list, isi_int_dict, isi_str_int, isi_str_bool, isi_str_str, isi_str_tuple, isi_str_list, isi_str_dict, isi_tup_int, isi_tup_bool, isi_tup_str, isi_tup_tuple, isi_tup_list, isi_tup_dict, isi_lst_int, isi_lst_bool, isi_lst_str, isi_lst_tuple, isi_lst_list, isi_lst_dict, isi_dic_int, isi_dic_bool, isi_dic_str, isi_dic_tuple, isi_dic_list, isi_dic_dict, gcAll, gcAny, goMod, goFdiv, decide_eq_true_eq, Bool.not_eq_true', decide_eq_false_iff_not, ite_not, Bool.and_eq_true, not_false_eq_true, Bool.not_eq_true, List.map_append, Int.zero_add, List.any_cons, List.any_nil, Bool.true_and, Bool.or_false, Bool.xor_false, Bool.false_xor, Bool.true_xor, Bool.not_not, forall_const, Int.toNat_natCast, List.length_map, List.length_append, and_self, ne_eq, List.map_eq_nil_iff, not_true_eq_false, eq_self, goMulI, goSub, goPow, goLe, goGt, goGe, guNeg, gcAbs, goEq_str, goNe_str, goEq_tup, goNe_tup, goEq_lst, goNe_lst, goEq_non, goNe_non, gAndV_k, gOrV_k, gCh_k, blK_bl, ite_bf, reduceCtorEq, Int.reducePow, Int.reduceLT, Int.reduceLE, Int.reduceNeg, sz0, se0, sz1, se1, sz2, se2, sz3, se3, sz4, se4, sz5, se5, sz6, se6, sz7, se7, sz8, se8, sz9, se9, gFld, fldK_ref, gPutF, gPutFM, putFK_ref, gDrf, drfK_ref, gMApp, mlK_ref, gMPop, popK_int, gMIns, ins2K_2, insK_int, gMeth, mthK_ref, gMake, giR3, gFlR1, gFlR2, rg2K_int, gLenSet, lenSetK_lst, lenSetK_tup, gMinD, minDK_lst, giMem, giBA, gMIdx, goTab, gFsort, sortK_lst, sortK_tup, gStep, stepK_lst, gAppM, gDictV, gFdict, dictK_lst, dictK_tup, dictK_dic, gDic0, gFdic0, gDGet1, gDGet2, dicK_dic, gOPut, gOPop, giKeys, gPconsI, gDispV, goIx_dic, gcLen_dic, lstK_dic, truK_dic, getK, dgetK, gOIns, ins2K_2, insK_int, gCallL, gAct, gxAct, gLamT, lamS, lam1, entryL])
variable {K : PySem.W.Frag}
set_option maxHeartbeats 1000000
end LW
namespace LW
open PySem PySem.Spec PySem.W PyProof.Rows L2 DL
local macro_rules | `(tactic| wp_walk) => `(tactic| simp only [e_gSeq, e_gSet, e_gRet, e_gRetN, e_gNext, e_gIfS, e_gDrop, e_gOwn, e_gApp, e_gExt, e_gForM, e_gLcM, e_gCnt, e_gTryV, e_gTryE, e_gxP, e_gxM, DL.Fr.mute, e_gIPut, e_gFrz, frz, e_gAsg, e_gPar, e_gPar3, e_gAug, e_gRaise, e_gRetM, e_gSetM, e_gMPut, e_gMGet, e_g1, e_g2, e_gC, e_gV, e_gVw, e_gB, e_gAnd, e_gOr, e_gNot, e_gNotV, e_gIf, e_DL_gCons, e_DL_gNil, e_DL_gTup, e_DL_gLst, e_gFl, e_gFd, e_gCa, e_gLenS, e_gPart, e_gNoP, e_gDisp, e_gPcons, e_gPnil, e_gtN, e_gtTup, e_gtCons, e_gtNil, e_gYes, e_gFor, e_gLc, e_giS, e_gCallP, e_gCallM, e_gScr, entry, aSls, aSl, DL.Fr.set, OM.d, wipeF, wipeS, keyD, List.length_cons, List.length_nil, List.cons_append, List.nil_append, List.append_nil, List.replicate_succ, List.replicate_zero, List.getElem?_cons_zero, List.getElem?_cons_succ, List.getElem?_nil, List.set_cons_zero, List.set_cons_succ, Nat.reduceAdd, Nat.reduceSub, if_true, if_false, ite_true, ite_false, reduceIte, Bool.false_eq_true, Bool.not_true, Bool.not_false, List.all_cons, List.all_nil, Bool.and_true, true_and, and_true, List.map_cons, List.map_nil, e_gIdx, ixT_ints, intsOf_map, Int.reduceToNat, Option.some.injEq, exists_eq_left', e_goAdd_int, e_goAdd_str, e_goAdd_tup, e_goAdd_lst, e_goAddW_int, e_goAddW_lst, e_goPlus_int, e_goI_int, e_guI_int, e_gcI1_int, e_goIx_lst, e_gcLen_lst, e_gcTupleS_lst, e_gcList_lst, e_goRevA_lst, e_goIx_tup, e_gcLen_tup, e_gcTupleS_tup, e_gcList_tup, e_goRevA_tup, e_gcTuple_lst, e_goIx_str, e_gcLen_str, e_gcInt_int, e_gcInt_bl, e_goMulT_tup, e_goMulL_lst, e_goIsB_bl, e_goIsN_non, isN_int, isN_bl, isN_str, isN_tup, isN_lst, isN_dic, isN_ref, isN_ty, isN_non, gTru_k, e_truK_non, e_truK_bl, e_truK_int, e_truK_lst, e_truK_tup, e_truK_str, gFlist_k, e_lstK_lst, e_lstK_tup, gsSl_k, e_slK_lst, slK_tup, e_slK_str, itsD_k, e_itsK_lst, e_itsK_tup, giZip_k, e_zipK_lst, e_zipK_tup, giR1_k, ran1K_nat, e_ran1K_int, giR2_k, e_ran2K_int, e_goLtA_int, goLtA_tup, ok_non, eqv_bl, e_goEq_int, e_goNe_int, e_goEq_bl, e_goNe_bl, gcMin_ints, gcMinT_ints, gcMax_ints, gcMaxT_ints, intsOf_mapf, blsOf_mapf, gcMin_f, gcMax_f, gcMin_2, gcMax_2, gcSum_ints, gcSum_f, gcBls_f, all_mapid, any_mapid, at_0, at_1, at_2, at_3, at_last, noOwn_nil, noOwn_1, noOwn_2, nof_n, nof_v, nof_b, nof_s, zipD_map, enumD_map, isi_non_int, isi_non_bool, isi_non_str, isi_non_tuple, isi_non_list, isi_non_dict, isi_bl_int, isi_bl_bool, isi_bl_str, isi_bl_tuple, isi_bl_list, isi_bl_dict, isi_int_int, isi_int_bool, isi_int_str, isi_int_tuple, isi_int_list, isi_int_dict, isi_str_int, isi_str_bool, isi_str_str, isi_str_tuple, isi_str_list, isi_str_dict, isi_tup_int, isi_tup_bool, isi_tup_str, isi_tup_tuple, isi_tup_list, isi_tup_dict, isi_lst_int, isi_lst_bool, isi_lst_str, isi_lst_tuple, isi_lst_list, isi_lst_dict, isi_dic_int, isi_dic_bool, isi_dic_str, isi_dic_tuple, isi_dic_list, isi_dic_dict, gcAll, gcAny, goMod, goFdiv, decide_eq_true_eq, Bool.not_eq_true', decide_eq_false_iff_not, ite_not, Bool.and_eq_true, not_false_eq_true, Bool.not_eq_true, List.map_append, Int.zero_add, List.any_cons, List.any_nil, Bool.true_and, Bool.or_false, Bool.xor_false, Bool.false_xor, Bool.true_xor, Bool.not_not, forall_const, Int.toNat_natCast, List.length_map, List.length_append, and_self, ne_eq, List.map_eq_nil_iff, not_true_eq_false, eq_self, goMulI, goSub, goPow, goLe, goGt, goGe, guNeg, gcAbs, e_goEq_str, e_goNe_str, e_goEq_tup, e_goNe_tup, e_goEq_lst, e_goNe_lst, e_goEq_non, e_goNe_non, e_gAndV_k, e_gOrV_k, e_gCh_k, blK_bl, ite_bf, reduceCtorEq, Int.reducePow, Int.reduceLT, Int.reduceLE, Int.reduceNeg, sz0, se0, sz1, se1, sz2, se2, sz3, se3, sz4, se4, sz5, se5, sz6, se6, sz7, se7, sz8, se8, sz9, se9, e_gFld, e_fldK_ref, e_gPutF, e_gPutFM, e_putFK_ref, e_gDrf, e_drfK_ref, e_gMApp, e_mlK_ref, e_gMPop, e_popK_int, e_gMIns, ins2K_2, insK_int, e_gMeth, e_mthK_ref, e_gMake, e_giR3, e_gFlR1, e_gFlR2, e_rg2K_int, e_gLenSet, lenSetK_lst, lenSetK_tup, e_gMinD, minDK_lst, e_giMem, e_giBA, e_gMIdx, e_goTab, e_gFsort, sortK_lst, sortK_tup, e_gStep, e_stepK_lst, e_gAppM, e_gDictV, e_gFdict, e_dictK_lst, e_dictK_tup, e_dictK_dic, e_gDic0, e_gFdic0, e_gDGet1, e_gDGet2, e_dicK_dic, e_gOPut, e_gOPop, e_giKeys, e_gPconsI, e_gDispV, e_goIx_dic, e_gcLen_dic, e_lstK_dic, e_truK_dic, getK, dgetK, e_gOIns, ins2K_2, insK_int, e_gCallL, e_gAct, e_gxAct, gLamT, lamS, lam1, entryL, e_gxV, e_gItemsT, e_gFvals, e_giItems, e_gFsortD, e_sortDK_dic, kvD, goEqE_lst, goEqE_tup, List.isEmpty_cons, List.isEmpty_nil, gcReprA_1, gcStrA_1, goEqI_x, goAddB_ii, goAddB_bi, goAddB_ib, goSubB_ii, goSubB_bi, goSubB_ib, goMulB_ii, goMulB_bi, goMulB_ib, guNegB_i, guNegB_b])
local macro_rules | `(tactic| wp_walk using $ts,*) => `(tactic| simp only [$[$ts:term],*, e_gSeq, e_gSet, e_gRet, e_gRetN, e_gNext, e_gIfS, e_gDrop, e_gOwn, e_gApp, e_gExt, e_gForM, e_gLcM, e_gCnt, e_gTryV, e_gTryE, e_gxP, e_gxM, DL.Fr.mute, e_gIPut, e_gFrz, frz, e_gAsg, e_gPar, e_gPar3, e_gAug, e_gRaise, e_gRetM, e_gSetM, e_gMPut, e_gMGet, e_g1, e_g2, e_gC, e_gV, e_gVw, e_gB, e_gAnd, e_gOr, e_gNot, e_gNotV, e_gIf, e_DL_gCons, e_DL_gNil, e_DL_gTup, e_DL_gLst, e_gFl, e_gFd, e_gCa, e_gLenS, e_gPart, e_gNoP, e_gDisp, e_gPcons, e_gPnil, e_gtN, e_gtTup, e_gtCons, e_gtNil, e_gYes, e_gFor, e_gLc, e_giS, e_gCallP, e_gCallM, e_gScr, entry, aSls, aSl, DL.Fr.set, OM.d, wipeF, wipeS, keyD, List.length_cons, List.length_nil, List.cons_append, List.nil_append, List.append_nil, List.replicate_succ, List.replicate_zero, List.getElem?_cons_zero, List.getElem?_cons_succ, List.getElem?_nil, List.set_cons_zero, List.set_cons_succ, Nat.reduceAdd, Nat.reduceSub, if_true, if_false, ite_true, ite_false, reduceIte, Bool.false_eq_true, Bool.not_true, Bool.not_false, List.all_cons, List.all_nil, Bool.and_true, true_and, and_true, List.map_cons, List.map_nil, e_gIdx, ixT_ints, intsOf_map, Int.reduceToNat, Option.some.injEq, exists_eq_left', e_goAdd_int, e_goAdd_str, e_goAdd_tup, e_goAdd_lst, e_goAddW_int, e_goAddW_lst, e_goPlus_int, e_goI_int, e_guI_int, e_gcI1_int, e_goIx_lst, e_gcLen_lst, e_gcTupleS_lst, e_gcList_lst, e_goRevA_lst, e_goIx_tup, e_gcLen_tup, e_gcTupleS_tup, e_gcList_tup, e_goRevA_tup, e_gcTuple_lst, e_goIx_str, e_gcLen_str, e_gcInt_int, e_gcInt_bl, e_goMulT_tup, e_goMulL_lst, e_goIsB_bl, e_goIsN_non, isN_int, isN_bl, isN_str, isN_tup, isN_lst, isN_dic, isN_ref, isN_ty, isN_non, gTru_k, e_truK_non, e_truK_bl, e_truK_int, e_truK_lst, e_truK_tup, e_truK_str, gFlist_k, e_lstK_lst, e_lstK_tup, gsSl_k, e_slK_lst, slK_tup, e_slK_str, itsD_k, e_itsK_lst, e_itsK_tup, giZip_k, e_zipK_lst, e_zipK_tup, giR1_k, ran1K_nat, e_ran1K_int, giR2_k, e_ran2K_int, e_goLtA_int, goLtA_tup, ok_non, eqv_bl, e_goEq_int, e_goNe_int, e_goEq_bl, e_goNe_bl, gcMin_ints, gcMinT_ints, gcMax_ints, gcMaxT_ints, intsOf_mapf, blsOf_mapf, gcMin_f, gcMax_f, gcMin_2, gcMax_2, gcSum_ints, gcSum_f, gcBls_f, all_mapid, any_mapid, at_0, at_1, at_2, at_3, at_last, noOwn_nil, noOwn_1, noOwn_2, nof_n, nof_v, nof_b, nof_s, zipD_map, enumD_map, isi_non_int, isi_non_bool, isi_non_str, isi_non_tuple, isi_non_list, isi_non_dict, isi_bl_int, isi_bl_bool, isi_bl_str, isi_bl_tuple, isi_bl_list, isi_bl_dict, isi_int_int, isi_int_bool, isi_int_str, isi_int_tuple, isi_int_list, isi_int_dict, isi_str_int, isi_str_bool, isi_str_str, isi_str_tuple, isi_str_list, isi_str_dict, isi_tup_int, isi_tup_bool, isi_tup_str, isi_tup_tuple, isi_tup_list, isi_tup_dict, isi_lst_int, isi_lst_bool, isi_lst_str, isi_lst_tuple, isi_lst_list, isi_lst_dict, isi_dic_int, isi_dic_bool, isi_dic_str, isi_dic_tuple, isi_dic_list, isi_dic_dict, gcAll, gcAny, goMod, goFdiv, decide_eq_true_eq, Bool.not_eq_true', decide_eq_false_iff_not, ite_not, Bool.and_eq_true, not_false_eq_true, Bool.not_eq_true, List.map_append, Int.zero_add, List.any_cons, List.any_nil, Bool.true_and, Bool.or_false, Bool.xor_false, Bool.false_xor, Bool.true_xor, Bool.not_not, forall_const, Int.toNat_natCast, List.length_map, List.length_append, and_self, ne_eq, List.map_eq_nil_iff, not_true_eq_false, eq_self, goMulI, goSub, goPow, goLe, goGt, goGe, guNeg, gcAbs, e_goEq_str, e_goNe_str, e_goEq_tup, e_goNe_tup, e_goEq_lst, e_goNe_lst, e_goEq_non, e_goNe_non, e_gAndV_k, e_gOrV_k, e_gCh_k, blK_bl, ite_bf, reduceCtorEq, Int.reducePow, Int.reduceLT, Int.reduceLE, Int.reduceNeg, sz0, se0, sz1, se1, sz2, se2, sz3, se3, sz4, se4, sz5, se5, sz6, se6, sz7, se7, sz8, se8, sz9, se9, e_gFld, e_fldK_ref, e_gPutF, e_gPutFM, e_putFK_ref, e_gDrf, e_drfK_ref, e_gMApp, e_mlK_ref, e_gMPop, e_popK_int, e_gMIns, ins2K_2, insK_int, e_gMeth, e_mthK_ref, e_gMake, e_giR3, e_gFlR1, e_gFlR2, e_rg2K_int, e_gLenSet, lenSetK_lst, lenSetK_tup, e_gMinD, minDK_lst, e_giMem, e_giBA, e_gMIdx, e_goTab, e_gFsort, sortK_lst, sortK_tup, e_gStep, e_stepK_lst, e_gAppM, e_gDictV, e_gFdict, e_dictK_lst, e_dictK_tup, e_dictK_dic, e_gDic0, e_gFdic0, e_gDGet1, e_gDGet2, e_dicK_dic, e_gOPut, e_gOPop, e_giKeys, e_gPconsI, e_gDispV, e_goIx_dic, e_gcLen_dic, e_lstK_dic, e_truK_dic, getK, dgetK, e_gOIns, ins2K_2, insK_int, e_gCallL, e_gAct, e_gxAct, gLamT, lamS, lam1, entryL, e_gxV, e_gItemsT, e_gFvals, e_giItems, e_gFsortD, e_sortDK_dic, kvD, goEqE_lst, goEqE_tup, List.isEmpty_cons, List.isEmpty_nil, gcReprA_1, gcStrA_1, goEqI_x, goAddB_ii, goAddB_bi, goAddB_ib, goSubB_ii, goSubB_bi, goSubB_ib, goMulB_ii, goMulB_bi, goMulB_ib, guNegB_i, guNegB_b])
variable {K : PySem.W.Frag}
theorem KR.n_cases (i : Int) (h0 : 0 ≤ i) (h : i < 3) : ∃ k : KR, i = k.n := by
  have : i = 0 ∨ i = 1 ∨ i = 2 := by omega
  rcases this with rfl | rfl | rfl
  · exact ⟨.strip, rfl⟩
  · exact ⟨.chain, rfl⟩
  · exact ⟨.blocks, rfl⟩
def fs_l_shelf_5 (K : PySem.W.Frag) : FS := fun ds M Q X => ∃ (k : KR) (d : D), ds = [.int k.n, d] ∧ d.da = true ∧ (lieB .row d = false → ∀ M' : Mem, (∀ b, M b ≠ none → M' b = M b) → X (He.ga K "NoThings") M') ∧ ∀ (ns : List Int) (M' : Mem) (a l : Addr), d = .tup (ns.map .int) → RowN ns → (∀ b, M b ≠ none → M' b = M b) → M a = none → M l = none → RowAt K k M' a l ns → Q (.ref a) M'
theorem mo_l_shelf_5 {K : PySem.W.Frag} : MonoF (fs_l_shelf_5 K) := fun _ _ _ _ _ _ h hx ⟨k, d, e, c, x, q⟩ => ⟨k, d, e, c, fun z M' f => hx _ _ (x z M' f), fun ns M' a l z z1 z2 z3 z4 z5 => h _ _ (q ns M' a l z z1 z2 z3 z4 z5)⟩
/-- _law_shelf -/
def af1_l_shelf_5 (K : PySem.W.Frag) : GS := gRet (gIf (gB (g2 goEqA (gV 0) (gC (.int 1)))) (gMake (He.ga K "Chain") (Fk_Chain K) (fs_Chain___init__ K) (gCons (gV 1) gNil)) (gMake (He.ga K "Blocks") (Fk_Blocks K) (fs_Blocks___init__ K) (gCons (gV 1) gNil)))
def g_l_shelf_5 (K : PySem.W.Frag) : GS := gSeq (gIfS (gB (g2 goEqA (gV 0) (gC (.int 0)))) (gRet (gMake (He.ga K "Strip") (Fk_Strip K) (fs_Strip___init__ K) (gCons (gV 1) gNil))) (gNext)) (af1_l_shelf_5 K)
theorem row_initW {k : KR} {x : Addr} {d : D} {M : Mem} {Q : D → Mem → Prop} {X : Addr → Mem → Prop} (hd : d.da = true) (nx : M x = none) (hc : Cls K (He.ga K k.C)) (hn : NoAttr K (He.ga K k.C) k.f)
    (bad : lieB .row d = false → ∀ M' : Mem, (∀ b, M b ≠ none → M' b = M b) → X (He.ga K "NoThings") M')
    (q : ∀ (ns : List Int) (M' : Mem) (l : Addr), d = .tup (ns.map .int) → RowN ns → (∀ b, M b ≠ none → M' b = M b) → M l = none → RowAt K k M' x l ns → Q .non M') :
    fsRi K k [.ref x, d] (mup M x (.ins (He.ga K k.C) [])) Q X := by
  have fr : ∀ b, M b ≠ none → mup M x (.ins (He.ga K k.C) []) b = M b := fun b hb => mup_ne fun z => hb (by rw [z]; exact nx)
  refine ⟨x, d, rfl, mup_same, hc, hn, hd, fun z => bad z _ fr, fun ns M1 l e h1 z1 nl r => ?_⟩
  refine q ns M1 l e h1 (fun b hb => ?_) ?_ r
  · rw [z1 b (by rw [fr b hb]; exact hb) (fun z => hb (by rw [z]; exact nx)), fr b hb]
  · rcases nl with rfl | nl
    · exact nx
    · by_cases z : l = x
      · rw [z]; exact nx
      · rw [mup_ne z] at nl; exact nl
theorem h_l_shelf_5 {K : PySem.W.Frag} : ∀ ds M Q X, (fs_l_shelf_5 K) ds M Q X → ds.length = ([.v, .v] : List AK).length → g_l_shelf_5 K { nx := fun _ M' => Q .non M', rt := Q } (entry 2 [.v, .v] ds X) M := by
  rintro ds M Q X ⟨k, d, rfl, hd, bad, q⟩ -
  cases k
  case strip =>
    wp_walk using g_l_shelf_5, KR.n
    intro hF x nx
    exact row_initW (k := .strip) hd nx hF.1 hF.2 bad fun ns M1 l e h1 f1 nl r => ⟨rfl, q ns M1 x l e h1 f1 nx nl r⟩
  case chain =>
    wp_walk using g_l_shelf_5, KR.n
    rw [if_neg (by decide)]
    wp_walk using af1_l_shelf_5
    intro hF x nx
    exact row_initW (k := .chain) hd nx hF.1 hF.2 bad fun ns M1 l e h1 f1 nl r => ⟨rfl, q ns M1 x l e h1 f1 nx nl r⟩
  case blocks =>
    wp_walk using g_l_shelf_5, KR.n
    rw [if_neg (by decide)]
    wp_walk using af1_l_shelf_5
    rw [if_neg (by decide)]
    intro hF x nx
    exact row_initW (k := .blocks) hd nx hF.1 hF.2 bad fun ns M1 l e h1 f1 nl r => ⟨rfl, q ns M1 x l e h1 f1 nx nl r⟩
def fs_l_lies_3 (K : PySem.W.Frag) : FS := fun ds M Q _ => ∃ d : D, ds = [d] ∧ d.da = true ∧ Q (.bl (lieB .row d)) M
theorem mo_l_lies_3 {K : PySem.W.Frag} : MonoF (fs_l_lies_3 K) := fun _ _ _ _ _ _ h _ ⟨d, e, c, q⟩ => ⟨d, e, c, h _ _ q⟩
/-- _law_lies -/
def lp1_l_lies_3 (K : PySem.W.Frag) : GS := gIfS (gOr (gNot (gTru (gCa gcIsi (gCons (gV 1) (gCons (gC (.ty "int")) gNil))))) (gOr (gTru (gCa gcIsi (gCons (gV 1) (gCons (gC (.ty "bool")) gNil)))) (gOr (gB (g2 goLtA (gV 1) (gC (.int 0)))) (gB (g2 goGt (gV 1) (gC (.int 999999))))))) (gRet (gC (.bl false))) (gNext)
def af1_l_lies_3 (K : PySem.W.Frag) : GS := gRet (gC (.bl true))
def af2_l_lies_3 (K : PySem.W.Frag) : GS := gSeq (gFor (itsD (fun ds => ds) (gV 0)) (gtN 1) (lp1_l_lies_3 K)) (af1_l_lies_3 K)
def g_l_lies_3 (K : PySem.W.Frag) : GS := gSeq (gIfS (gOr (gNot (gTru (gCa gcIsi (gCons (gV 0) (gCons (gC (.ty "tuple")) gNil))))) (gB (g2 goGt (gCa gcLen (gCons (gV 0) gNil)) (gC (.int 40))))) (gRet (gC (.bl false))) (gNext)) (af2_l_lies_3 K)
theorem row_cons (d : D) (r : List D) : goB .row [] (d :: r) = (isThing d && goB .row [] r) := by
  rw [Bool.eq_iff_iff, Bool.and_eq_true, goB_row, goB_row]
  constructor
  · rintro ⟨ns, e, h⟩
    cases ns with
    | nil => cases e
    | cons n ns =>
      obtain ⟨rfl, rfl⟩ := List.cons.inj e
      exact ⟨thing_is (h n (List.mem_cons_self ..)), ns, rfl, fun m hm => h m (List.mem_cons_of_mem _ hm)⟩
  · rintro ⟨hd, ns, rfl, h⟩
    cases e : thingOf d with
    | none => rw [isThing_none e] at hd; cases hd
    | some x =>
      obtain ⟨rfl, hx⟩ := thingOf_some e
      exact ⟨x :: ns, rfl, fun m hm => by
        rcases List.mem_cons.mp hm with rfl | hm
        · exact hx
        · exact h m hm⟩
theorem h_l_lies_3 {K : PySem.W.Frag} : ∀ ds M Q X, (fs_l_lies_3 K) ds M Q X → ds.length = ([.v] : List AK).length → g_l_lies_3 K { nx := fun _ M' => Q .non M', rt := Q } (entry 2 [.v] ds X) M := by
  rintro ds M Q X ⟨d, rfl, hd, q⟩ -
  cases d
  case tup xs =>
    have ha : D.daL xs = true := D.da_tup ▸ hd
    wp_walk using g_l_lies_3
    by_cases hl : (40 : Int) < (xs.length : Nat)
    · rw [if_pos hl]
      rw [lieB_long .row (by omega)] at q
      exact q
    rw [if_neg hl]
    rw [goB_lie .row (by omega)] at q
    wp_walk using af2_l_lies_3
    refine loop_inv (fun r fr M' => M' = M ∧ ∃ x1 : Sl, (∀ d ∈ r, d.da = true) ∧ Q (.bl (goB .row [] r)) M ∧ fr = ⟨[.v (.tup xs), x1], X⟩) ?_ ?_ xs _ _ ⟨rfl, _, D.daL_mem ha, q, rfl⟩
    · rintro fr M' ⟨rfl, x1, _, q, rfl⟩
      wp_walk using af1_l_lies_3
      exact q
    · rintro d r fr M' ⟨rfl, x1, hd, q, rfl⟩ N hN
      have hda := hd d (List.mem_cons_self ..)
      rw [row_cons] at q
      cases d with
      | int x =>
        wp_walk using lp1_l_lies_3
        by_cases h1 : x < 0
        · rw [if_pos h1]
          rw [show isThing (.int x) = false by simp [isThing]; omega] at q
          exact q
        rw [if_neg h1]
        by_cases h2 : 999999 < x
        · rw [if_pos h2]
          rw [show isThing (.int x) = false by simp [isThing]; omega] at q
          exact q
        rw [if_neg h2]
        rw [show isThing (.int x) = true from thing_is ⟨by omega, by omega⟩, Bool.true_and] at q
        exact hN _ _ ⟨rfl, _, fun z hz => hd z (List.mem_cons_of_mem _ hz), q, rfl⟩
      | ty n => cases hda
      | ref n => cases hda
      | _ =>
        wp_walk using lp1_l_lies_3
        exact q
  all_goals first | (simp [D.da] at hd; done) | (wp_walk using g_l_lies_3; exact q)
def fs_l_form_8 (K : PySem.W.Frag) : FS := fun ds M Q _ => ∃ (k : KR) (ns : List Int), ds = [.int k.n, .tup (ns.map .int)] ∧ RowN ns ∧ Q (frmR k ns) M
theorem mo_l_form_8 {K : PySem.W.Frag} : MonoF (fs_l_form_8 K) := fun _ _ _ _ _ _ h _ ⟨k, ns, e, c, q⟩ => ⟨k, ns, e, c, h _ _ q⟩
/-- _law_form -/
def lp1_l_form_8 (K : PySem.W.Frag) : GS := gSet 2 (gTup (gCons (gV 3) (gCons (gV 2) gNil)))
def af1_l_form_8 (K : PySem.W.Frag) : GS := gRet (gV 2)
def af2_l_form_8 (K : PySem.W.Frag) : GS := gSeq (gSet 2 (gTup (gNil))) (gSeq (gFor (itsD (fun ds => ds) (g1 goRevA (gV 1))) (gtN 3) (lp1_l_form_8 K)) (af1_l_form_8 K))
def af3_l_form_8 (K : PySem.W.Frag) : GS := gSeq (gIfS (gB (g2 goEqA (gV 0) (gC (.int 2)))) (gRet (gCa gcTupleS (gCons (gFd (gLc (giR3 (gCons (gC (.int 0)) (gCons (gCa gcLen (gCons (gV 1) gNil)) (gCons (gC (.int 8)) gNil)))) (gtN 4) (gYes) (gsSl true (gV 1) (gPart (gV 4)) (gPart (g2 goAdd (gV 4) (gC (.int 8))))) [4])) gNil))) (gNext)) (af2_l_form_8 K)
def g_l_form_8 (K : PySem.W.Frag) : GS := gSeq (gIfS (gB (g2 goEqA (gV 0) (gC (.int 0)))) (gRet (gV 1)) (gNext)) (af3_l_form_8 K)
theorem h_l_form_8 {K : PySem.W.Frag} : ∀ ds M Q X, (fs_l_form_8 K) ds M Q X → ds.length = ([.v, .v] : List AK).length → g_l_form_8 K { nx := fun _ M' => Q .non M', rt := Q } (entry 5 [.v, .v] ds X) M := by
  rintro ds M Q X ⟨k, ns, rfl, hs, q⟩ -
  have hl := hs.len
  cases k
  case strip =>
    wp_walk using g_l_form_8, KR.n
    exact q
  case blocks =>
    wp_walk using g_l_form_8, KR.n
    rw [if_neg (by decide)]
    wp_walk using af3_l_form_8
    refine ⟨_, rg8 (by omega), ?_⟩
    refine lc_mp (xs := List.range ((ns.length + 7) / 8)) (enc := fun (i : Nat) => D.int (0 + (i : Int) * 8)) (f := fun i => tI (eight ns i)) (fun i hi Q' q' => ?_) (size_of (by simp; omega)) ?_
    · have hi := List.mem_range.mp hi
      have e := cut_eight hi
      rw [Int.zero_add] at e
      wp_walk using e
      exact q'
    · rw [List.nil_append, show (List.range ((ns.length + 7) / 8)).map (fun i => tI (eight ns i)) = (chk ns).map tI by unfold chk; rw [List.map_map]; rfl]
      exact q
  case chain =>
    wp_walk using g_l_form_8, KR.n
    rw [if_neg (by decide)]
    wp_walk using af3_l_form_8
    rw [if_neg (by decide)]
    wp_walk using af2_l_form_8
    rw [← List.map_reverse]
    refine loop_mp (enc := D.int) (fun (is : List Int) r M' => M' = M ∧ ∃ (suf : List Int) (x3 : Sl), ns = is.reverse ++ suf ∧ r = ⟨[.v (.int 1), .v (.tup (ns.map .int)), .v (chnD suf), x3, .n], X⟩) ?_ ?_ ns.reverse _ _ ⟨rfl, [], .n, by simp, rfl⟩
    · rintro r M' ⟨rfl, suf, x3, e, rfl⟩
      wp_walk using af1_l_form_8
      rw [List.reverse_nil, List.nil_append] at e
      subst e
      exact q
    · rintro x is r M' ⟨rfl, suf, x3, e, rfl⟩ N hN
      wp_walk using lp1_l_form_8
      exact hN _ _ ⟨rfl, x :: suf, _, by rw [e, List.reverse_cons, List.append_assoc]; rfl, rfl⟩
def fs_l_word_4 (K : PySem.W.Frag) (tl : LmT) : FS := fun ds M Q _ => ds = [] ∧ tl M (fun _ M' => Q (.str "") M') (fun C M' => C = He.ga K "NoThings" ∧ ∀ M'', (∀ b, M' b ≠ none → M'' b = M' b) → Q (.str "things") M'')
theorem mo_l_word_4 {K : PySem.W.Frag} : ∀ tl, MonoT tl → MonoF (fs_l_word_4 K tl) := fun tl hm ds M Q Q' X X' h hx ⟨e, q⟩ => ⟨e, hm _ _ _ _ _ (fun d M1 q1 => h _ _ q1) (fun C M' ⟨e, q1⟩ => ⟨e, fun M'' f => h _ _ (q1 M'' f)⟩) q⟩
/-- _law_word -/
def af1_l_word_4 (K : PySem.W.Frag) (lm : Lm) : GS := gRet (g2 goIx (gLst (gCons (gC (.str "things")) (gCons (gC (.str "deed")) (gCons (gC (.str "many")) gNil)))) (gIdx (gV 3) (gC (.bl true))))
def af2_l_word_4 (K : PySem.W.Frag) (lm : Lm) : GS := gSeq (gSet 3 (gLst (gCons (gCa (gcIsX [(He.ga K "NoChoice", .ref (He.ga K "NoThings"), false), (He.ga K "NoCosts", .ref (He.ga K "NoThings"), false), (He.ga K "NoDeed", .ref (He.ga K "NoThings"), false), (He.ga K "NoKind", .ref (He.ga K "NoThings"), false), (He.ga K "NoProgram", .ref (He.ga K "NoThings"), false), (He.ga K "NoRow", .ref (He.ga K "NoThings"), false), (He.ga K "NoRun", .ref (He.ga K "NoThings"), false), (He.ga K "NoShelf", .ref (He.ga K "NoThings"), false), (He.ga K "NoSort", .ref (He.ga K "NoThings"), false), (He.ga K "NoText", .ref (He.ga K "NoThings"), false), (He.ga K "NoThings", .ref (He.ga K "NoThings"), true), (He.ga K "TooMany", .ref (He.ga K "NoThings"), false)]) (gCons (gV 1) (gCons (gC (.ref (He.ga K "NoThings"))) gNil))) (gCons (gCa (gcIsX [(He.ga K "NoChoice", .ref (He.ga K "NoDeed"), false), (He.ga K "NoCosts", .ref (He.ga K "NoDeed"), false), (He.ga K "NoDeed", .ref (He.ga K "NoDeed"), true), (He.ga K "NoKind", .ref (He.ga K "NoDeed"), false), (He.ga K "NoProgram", .ref (He.ga K "NoDeed"), false), (He.ga K "NoRow", .ref (He.ga K "NoDeed"), false), (He.ga K "NoRun", .ref (He.ga K "NoDeed"), false), (He.ga K "NoShelf", .ref (He.ga K "NoDeed"), false), (He.ga K "NoSort", .ref (He.ga K "NoDeed"), false), (He.ga K "NoText", .ref (He.ga K "NoDeed"), false), (He.ga K "NoThings", .ref (He.ga K "NoDeed"), false), (He.ga K "TooMany", .ref (He.ga K "NoDeed"), false)]) (gCons (gV 1) (gCons (gC (.ref (He.ga K "NoDeed"))) gNil))) (gCons (gCa (gcIsX [(He.ga K "NoChoice", .ref (He.ga K "TooMany"), false), (He.ga K "NoCosts", .ref (He.ga K "TooMany"), false), (He.ga K "NoDeed", .ref (He.ga K "TooMany"), false), (He.ga K "NoKind", .ref (He.ga K "TooMany"), false), (He.ga K "NoProgram", .ref (He.ga K "TooMany"), false), (He.ga K "NoRow", .ref (He.ga K "TooMany"), false), (He.ga K "NoRun", .ref (He.ga K "TooMany"), false), (He.ga K "NoShelf", .ref (He.ga K "TooMany"), false), (He.ga K "NoSort", .ref (He.ga K "TooMany"), false), (He.ga K "NoText", .ref (He.ga K "TooMany"), false), (He.ga K "NoThings", .ref (He.ga K "TooMany"), false), (He.ga K "TooMany", .ref (He.ga K "TooMany"), true)]) (gCons (gV 1) (gCons (gC (.ref (He.ga K "TooMany"))) gNil))) gNil))))) (gSeq (gOwn 4 (gFl (gCons (gCa (gcIsX [(He.ga K "NoChoice", .tup [.ref (He.ga K "NoSort"), .ref (He.ga K "NoKind"), .ref (He.ga K "NoProgram")], false), (He.ga K "NoCosts", .tup [.ref (He.ga K "NoSort"), .ref (He.ga K "NoKind"), .ref (He.ga K "NoProgram")], false), (He.ga K "NoDeed", .tup [.ref (He.ga K "NoSort"), .ref (He.ga K "NoKind"), .ref (He.ga K "NoProgram")], false), (He.ga K "NoKind", .tup [.ref (He.ga K "NoSort"), .ref (He.ga K "NoKind"), .ref (He.ga K "NoProgram")], true), (He.ga K "NoProgram", .tup [.ref (He.ga K "NoSort"), .ref (He.ga K "NoKind"), .ref (He.ga K "NoProgram")], true), (He.ga K "NoRow", .tup [.ref (He.ga K "NoSort"), .ref (He.ga K "NoKind"), .ref (He.ga K "NoProgram")], false), (He.ga K "NoRun", .tup [.ref (He.ga K "NoSort"), .ref (He.ga K "NoKind"), .ref (He.ga K "NoProgram")], false), (He.ga K "NoShelf", .tup [.ref (He.ga K "NoSort"), .ref (He.ga K "NoKind"), .ref (He.ga K "NoProgram")], false), (He.ga K "NoSort", .tup [.ref (He.ga K "NoSort"), .ref (He.ga K "NoKind"), .ref (He.ga K "NoProgram")], true), (He.ga K "NoText", .tup [.ref (He.ga K "NoSort"), .ref (He.ga K "NoKind"), .ref (He.ga K "NoProgram")], false), (He.ga K "NoThings", .tup [.ref (He.ga K "NoSort"), .ref (He.ga K "NoKind"), .ref (He.ga K "NoProgram")], false), (He.ga K "TooMany", .tup [.ref (He.ga K "NoSort"), .ref (He.ga K "NoKind"), .ref (He.ga K "NoProgram")], false)]) (gCons (gV 1) (gCons (gTup (gCons (gC (.ref (He.ga K "NoSort"))) (gCons (gC (.ref (He.ga K "NoKind"))) (gCons (gC (.ref (He.ga K "NoProgram"))) gNil)))) gNil))) gNil))) (gSeq (gApp 4 (gCa (gcIsX [(He.ga K "NoChoice", .tup [.ref (He.ga K "NoText"), .ref (He.ga K "NoRun"), .ref (He.ga K "NoCosts")], false), (He.ga K "NoCosts", .tup [.ref (He.ga K "NoText"), .ref (He.ga K "NoRun"), .ref (He.ga K "NoCosts")], true), (He.ga K "NoDeed", .tup [.ref (He.ga K "NoText"), .ref (He.ga K "NoRun"), .ref (He.ga K "NoCosts")], false), (He.ga K "NoKind", .tup [.ref (He.ga K "NoText"), .ref (He.ga K "NoRun"), .ref (He.ga K "NoCosts")], false), (He.ga K "NoProgram", .tup [.ref (He.ga K "NoText"), .ref (He.ga K "NoRun"), .ref (He.ga K "NoCosts")], false), (He.ga K "NoRow", .tup [.ref (He.ga K "NoText"), .ref (He.ga K "NoRun"), .ref (He.ga K "NoCosts")], false), (He.ga K "NoRun", .tup [.ref (He.ga K "NoText"), .ref (He.ga K "NoRun"), .ref (He.ga K "NoCosts")], true), (He.ga K "NoShelf", .tup [.ref (He.ga K "NoText"), .ref (He.ga K "NoRun"), .ref (He.ga K "NoCosts")], false), (He.ga K "NoSort", .tup [.ref (He.ga K "NoText"), .ref (He.ga K "NoRun"), .ref (He.ga K "NoCosts")], false), (He.ga K "NoText", .tup [.ref (He.ga K "NoText"), .ref (He.ga K "NoRun"), .ref (He.ga K "NoCosts")], true), (He.ga K "NoThings", .tup [.ref (He.ga K "NoText"), .ref (He.ga K "NoRun"), .ref (He.ga K "NoCosts")], false), (He.ga K "TooMany", .tup [.ref (He.ga K "NoText"), .ref (He.ga K "NoRun"), .ref (He.ga K "NoCosts")], false)]) (gCons (gV 1) (gCons (gTup (gCons (gC (.ref (He.ga K "NoText"))) (gCons (gC (.ref (He.ga K "NoRun"))) (gCons (gC (.ref (He.ga K "NoCosts"))) gNil)))) gNil)))) (gSeq (gApp 4 (gCa (gcIsX [(He.ga K "NoChoice", .tup [.ref (He.ga K "NoChoice"), .ref (He.ga K "NoShelf"), .ref (He.ga K "NoRow")], true), (He.ga K "NoCosts", .tup [.ref (He.ga K "NoChoice"), .ref (He.ga K "NoShelf"), .ref (He.ga K "NoRow")], false), (He.ga K "NoDeed", .tup [.ref (He.ga K "NoChoice"), .ref (He.ga K "NoShelf"), .ref (He.ga K "NoRow")], false), (He.ga K "NoKind", .tup [.ref (He.ga K "NoChoice"), .ref (He.ga K "NoShelf"), .ref (He.ga K "NoRow")], false), (He.ga K "NoProgram", .tup [.ref (He.ga K "NoChoice"), .ref (He.ga K "NoShelf"), .ref (He.ga K "NoRow")], false), (He.ga K "NoRow", .tup [.ref (He.ga K "NoChoice"), .ref (He.ga K "NoShelf"), .ref (He.ga K "NoRow")], true), (He.ga K "NoRun", .tup [.ref (He.ga K "NoChoice"), .ref (He.ga K "NoShelf"), .ref (He.ga K "NoRow")], false), (He.ga K "NoShelf", .tup [.ref (He.ga K "NoChoice"), .ref (He.ga K "NoShelf"), .ref (He.ga K "NoRow")], true), (He.ga K "NoSort", .tup [.ref (He.ga K "NoChoice"), .ref (He.ga K "NoShelf"), .ref (He.ga K "NoRow")], false), (He.ga K "NoText", .tup [.ref (He.ga K "NoChoice"), .ref (He.ga K "NoShelf"), .ref (He.ga K "NoRow")], false), (He.ga K "NoThings", .tup [.ref (He.ga K "NoChoice"), .ref (He.ga K "NoShelf"), .ref (He.ga K "NoRow")], false), (He.ga K "TooMany", .tup [.ref (He.ga K "NoChoice"), .ref (He.ga K "NoShelf"), .ref (He.ga K "NoRow")], false)]) (gCons (gV 1) (gCons (gTup (gCons (gC (.ref (He.ga K "NoChoice"))) (gCons (gC (.ref (He.ga K "NoShelf"))) (gCons (gC (.ref (He.ga K "NoRow"))) gNil)))) gNil)))) (gFrz 4 (gSeq (gIfS (gOr (gB (g2 goNeA (gCnt (gV 3) (gC (.bl true))) (gC (.int 1)))) (gOr (gB (g2 (goIn false) (gC (.bl true)) (gV 4))) (gNot (gTru (gCa (gcIsX [(He.ga K "NoChoice", .ty "ValueError", true), (He.ga K "NoCosts", .ty "ValueError", true), (He.ga K "NoDeed", .ty "ValueError", true), (He.ga K "NoKind", .ty "ValueError", true), (He.ga K "NoProgram", .ty "ValueError", true), (He.ga K "NoRow", .ty "ValueError", true), (He.ga K "NoRun", .ty "ValueError", true), (He.ga K "NoShelf", .ty "ValueError", true), (He.ga K "NoSort", .ty "ValueError", true), (He.ga K "NoText", .ty "ValueError", true), (He.ga K "NoThings", .ty "ValueError", true), (He.ga K "TooMany", .ty "ValueError", true)]) (gCons (gV 1) (gCons (gC (.ty "ValueError")) gNil))))))) (gRet (gC (.str "other"))) (gNext)) (af1_l_word_4 K lm))))))
def g_l_word_4 (K : PySem.W.Frag) (lm : Lm) : GS := gSeq (gSet 1 (gC .non)) (gSeq (gTryE 1 2 [(He.ga K "NoChoice", true), (He.ga K "NoCosts", true), (He.ga K "NoDeed", true), (He.ga K "NoKind", true), (He.ga K "NoProgram", true), (He.ga K "NoRow", true), (He.ga K "NoRun", true), (He.ga K "NoShelf", true), (He.ga K "NoSort", true), (He.ga K "NoText", true), (He.ga K "NoThings", true), (He.ga K "TooMany", true)] (gxAct 0 lm)) (gSeq (gIfS (gB (g2 (goIsN false) (gV 1) (gC .non))) (gRet (gC (.str ""))) (gNext)) (af2_l_word_4 K lm)))
theorem h_l_word_4 {K : PySem.W.Frag} : ∀ lm ds M Q X, MonoT lm.tl → fs_l_word_4 K lm.tl ds M Q X → ds.length = ([] : List AK).length → g_l_word_4 K lm { nx := fun _ M' => Q .non M', rt := Q } (entryL 5 lm [] ds X) M := by
  rintro lm ds M Q X hm ⟨rfl, q⟩ -
  wp_walk using g_l_word_4
  refine hm _ _ _ _ _ (fun d M' q1 => ?_) (fun C M' ⟨e, q1⟩ => ?_) q
  · wp_walk
    exact q1
  · subst e
    refine ⟨true, ?_, fun _ a na => ?_, fun z => by cases z⟩
    · repeat (first | with_reducible exact List.mem_cons_self .. | apply List.mem_cons_of_mem)
    · have ma : mup M' a (.ho (L2.ExC (.ref (He.ga K "NoThings")) a)) a = some (.ho (L2.ExC (.ref (He.ga K "NoThings")) a)) := mup_same
      have fr : ∀ b, M' b ≠ none → mup M' a (.ho (L2.ExC (.ref (He.ga K "NoThings")) a)) b = M' b := fun b hb => mup_ne fun e => hb (by rw [e]; exact na)
      have q2 := q1 _ fr
      clear q1 fr
      generalize mup M' a (.ho (L2.ExC (.ref (He.ga K "NoThings")) a)) = M2 at ma q2 ⊢
      wp_walk using af2_l_word_4
      refine is_of ma (by repeat (first | with_reducible exact List.mem_cons_self .. | apply List.mem_cons_of_mem)) ?_
      refine is_of ma (by repeat (first | with_reducible exact List.mem_cons_self .. | apply List.mem_cons_of_mem)) ?_
      refine is_of ma (by repeat (first | with_reducible exact List.mem_cons_self .. | apply List.mem_cons_of_mem)) ?_
      refine is_of ma (by repeat (first | with_reducible exact List.mem_cons_self .. | apply List.mem_cons_of_mem)) ?_
      wp_walk
      refine is_of ma (by repeat (first | with_reducible exact List.mem_cons_self .. | apply List.mem_cons_of_mem)) ?_
      refine is_of ma (by repeat (first | with_reducible exact List.mem_cons_self .. | apply List.mem_cons_of_mem)) ?_
      wp_walk
      refine ⟨⟨by decide +kernel, by decide +kernel⟩, ?_⟩
      rw [if_pos (by decide +kernel)]
      refine ⟨⟨by decide +kernel, by decide +kernel⟩, ?_⟩
      wp_walk
      rw [if_neg (by decide +kernel)]
      refine is_of ma (by repeat (first | with_reducible exact List.mem_cons_self .. | apply List.mem_cons_of_mem)) ?_
      wp_walk using af1_l_word_4
      refine ⟨⟨by decide +kernel, by decide +kernel⟩, ?_⟩
      rw [show ixD [D.bl true, D.bl false, D.bl false] (D.bl true) 0 = some 0 by decide +kernel]
      exact q2
def fs_l_taken_2 (K : PySem.W.Frag) : FS := fun ds M Q _ => ∃ (k : KR) (d : D), ds = [.int k.n, d] ∧ d.da = true ∧ M (tP K "_law_taken") = some (.tab (lq "_law_taken")) ∧ ∀ M' : Mem, (∀ b, M b ≠ none → M' b = M b) → Q (.str (if lieB .row d = true then "" else "things")) M'
theorem mo_l_taken_2 {K : PySem.W.Frag} : MonoF (fs_l_taken_2 K) := fun _ _ _ _ _ _ h _ ⟨k, d, e, c, t, q⟩ => ⟨k, d, e, c, t, fun M' f => h _ _ (q M' f)⟩
/-- _law_taken -/
def g_l_taken_2 (K : PySem.W.Frag) : GS := gRet (gCallL (tP K "_law_taken") (lq "_law_taken") (fs_l_word_4 K) (gCallM (fs_l_shelf_5 K) (gCons (gV 0) (gCons (gV 1) gNil))) (gNil))
theorem h_l_taken_2 {K : PySem.W.Frag} : ∀ ds M Q X, (fs_l_taken_2 K) ds M Q X → ds.length = ([.v, .v] : List AK).length → g_l_taken_2 K { nx := fun _ M' => Q .non M', rt := Q } (entry 2 [.v, .v] ds X) M := by
  rintro ds M Q X ⟨k, d, rfl, hd, ht, q⟩ -
  wp_walk using g_l_taken_2
  refine ⟨ht, rfl, _, fun _ _ h => h, ?_⟩
  wp_walk
  refine ⟨k, d, rfl, hd, fun hb M' f => ⟨rfl, fun M'' f2 => ?_⟩, fun ns M' a l e hs f _ _ _ => ?_⟩
  · have := q M'' fun b hb' => by rw [f2 b (by rw [f b hb']; exact hb'), f b hb']
    rw [hb, if_neg (by decide)] at this
    exact this
  · have := q M' f
    rw [show lieB .row d = true by rw [e]; exact hs.mem, if_pos rfl] at this
    exact this
theorem ntx_chn : ∀ (ns : List Int), ntx (chnD ns) = true
  | [] => rfl
  | n :: ns => by
    show (ntx (.int n) && (ntx (chnD ns) && true)) = true
    rw [ntx_chn ns]
    rfl
theorem ntxL_all : ∀ {ds : List D}, (∀ d ∈ ds, ntx d = true) → ntxL ds = true
  | [], _ => rfl
  | d :: ds, h => by
    show (ntx d && ntxL ds) = true
    rw [h d (List.mem_cons_self ..), ntxL_all fun x hx => h x (List.mem_cons_of_mem _ hx)]
    rfl
theorem ntx_frm (k : KR) (ns : List Int) : ntx (frmR k ns) = true := by
  cases k
  · exact ntx_ints ns
  · exact ntx_chn ns
  · refine ntxL_all fun d hd => ?_
    obtain ⟨b, _, rfl⟩ := List.mem_map.mp hd
    exact ntx_ints b
mutual
theorem pyA_py : ∀ (d : D), ntx d = true → d.pyA = d.py
  | .non, _ => rfl
  | .bl b, _ => rfl
  | .int i, _ => rfl
  | .tup xs, h => congrArg PyData.tuple (pyAL_py xs h)
  | .lst xs, h => congrArg PyData.list (pyAL_py xs h)
  | .str x, h => by cases h
  | .ty n, h => by cases h
  | .ref a, h => by cases h
  | .dic k, h => by cases h
theorem pyAL_py : ∀ (ds : List D), ntxL ds = true → D.pyAL ds = D.pyL ds
  | [], _ => rfl
  | d :: ds, h => by
    have h' := Bool.and_eq_true_iff.mp (show (ntx d && ntxL ds) = true from h)
    show d.pyA :: D.pyAL ds = d.py :: D.pyL ds
    rw [pyA_py d h'.1, pyAL_py ds h'.2]
end
mutual
theorem ntx_da : ∀ (d : D), ntx d = true → d.da = true
  | .non, _ => rfl
  | .bl b, _ => rfl
  | .int i, _ => rfl
  | .tup xs, h => ntxL_da xs h
  | .lst xs, h => ntxL_da xs h
  | .str x, h => by cases h
  | .ty n, h => by cases h
  | .ref a, h => by cases h
  | .dic k, h => by cases h
theorem ntxL_da : ∀ (ds : List D), ntxL ds = true → D.daL ds = true
  | [], _ => rfl
  | d :: ds, h => by
    have h' := Bool.and_eq_true_iff.mp (show (ntx d && ntxL ds) = true from h)
    exact Bool.and_eq_true_iff.mpr ⟨ntx_da d h'.1, ntxL_da ds h'.2⟩
end
theorem rp_frm {k : KR} {ns : List Int} (hs : RowN ns) : Rp 60 16000000 (frmR k ns) := by
  have h := sh_frm hs k
  have e := pyA_py _ (ntx_frm k ns)
  refine ⟨ntx_da _ (ntx_frm k ns), by rw [e]; exact h.sh, by rw [e]; exact Nat.le_trans h.dep (by decide), ?_⟩
  rw [e]
  have := PyData.shown_le 13 (by decide) _ h.lv
  have := h.wt
  omega
def fs_l_right_29 (K : PySem.W.Frag) : FS := fun ds M Q _ => ∃ d : D, ds = [d] ∧ Rp 60 16000000 d ∧ M (tP K "_law_taken") = some (.tab (lq "_law_taken")) ∧ ∀ M' : Mem, (∀ b, M b ≠ none → M' b = M b) → Q (.bl true) M'
theorem mo_l_right_29 {K : PySem.W.Frag} : MonoF (fs_l_right_29 K) := fun _ _ _ _ _ _ h _ ⟨d, e, c, t, q⟩ => ⟨d, e, c, t, fun M' f => h _ _ (q M' f)⟩
/-- _law_right -/
def af1_l_right_29 (K : PySem.W.Frag) : GS := gIfS (gAnd (gTru (gV 2)) (gB (g2 goNeA (gCa gcReprA (gCons (gMeth "form" [(He.ga K "Strip", fs_Strip_form K), (He.ga K "Blocks", fs_Blocks_form K), (He.ga K "Chain", fs_Chain_form K)] (gCallM (fs_l_shelf_5 K) (gCons (gV 4) (gCons (gV 0) gNil))) gNil) gNil)) (gCa gcReprA (gCons (gCallP (fs_l_form_8 K) (gCons (gV 4) (gCons (gV 0) gNil))) gNil))))) (gRet (gC (.bl false))) (gNext)
def lp1_l_right_29 (K : PySem.W.Frag) : GS := gSeq (gIfS (gB (g2 goNeA (gCallM (fs_l_taken_2 K) (gCons (gV 4) (gCons (gV 0) gNil))) (g2 goIx (gLst (gCons (gC (.str "things")) (gCons (gC (.str "")) gNil))) (gCa gcInt (gCons (gV 2) gNil))))) (gRet (gC (.bl false))) (gNext)) (af1_l_right_29 K)
def af2_l_right_29 (K : PySem.W.Frag) : GS := gRet (g2 goEqA (gCa gcReprA (gCons (gV 0) gNil)) (gV 1))
def af3_l_right_29 (K : PySem.W.Frag) : GS := gSeq (gFor (giR1 (gCons (gC (.int 3)) gNil)) (gtN 4) (lp1_l_right_29 K)) (af2_l_right_29 K)
def cu1_l_right_29 (K : PySem.W.Frag) : GS := gSeq (gIfS (gOr (gNot (gTru (gCa gcIsi (gCons (gV 3) (gCons (gC (.ty "bool")) gNil))))) (gB (g2 goNeA (gV 3) (gV 2)))) (gRet (gC (.bl false))) (gNext)) (af3_l_right_29 K)
def cu2_l_right_29 (K : PySem.W.Frag) : GS := gSeq (gSet 3 (gCallP (fs_p_is_things K) (gCons (gC (.str "row")) (gCons (gV 0) gNil)))) (cu1_l_right_29 K)
def g_l_right_29 (K : PySem.W.Frag) : GS := gSeq (gSet 1 (gCa gcReprA (gCons (gV 0) gNil))) (gSeq (gSet 2 (gCallP (fs_l_lies_3 K) (gCons (gV 0) gNil))) (cu2_l_right_29 K))
theorem h_l_right_29 {K : PySem.W.Frag} : ∀ ds M Q X, (fs_l_right_29 K) ds M Q X → ds.length = ([.v] : List AK).length → g_l_right_29 K { nx := fun _ M' => Q .non M', rt := Q } (entry 5 [.v] ds X) M := by
  rintro ds M Q X ⟨d, rfl, rp, ht, q⟩ -
  wp_walk using g_l_right_29
  refine ⟨rp, d, rfl, rp.da, ?_⟩
  wp_walk using cu2_l_right_29
  refine ⟨_, d, rfl, rfl, rp.da, fun z => absurd z (by decide +kernel), fun so e => ?_⟩
  obtain rfl : so = .row := by cases so <;> first | rfl | exact absurd (D.str.inj e) (by decide +kernel)
  wp_walk using cu1_l_right_29
  wp_walk using af3_l_right_29
  unfold rngD
  refine loop_rng (fun j r M' => (∀ b, M b ≠ none → M' b = M b) ∧ ∃ x4 : Sl, r = ⟨[.v d, .v (.str d.pyA.shown), .v (.bl (lieB .row d)), .v (.bl (lieB .row d)), x4], X⟩) _ ?_ ?_ _ _ ⟨fun _ _ => rfl, _, rfl⟩
  · rintro r M' ⟨f, x4, rfl⟩
    wp_walk using af2_l_right_29
    exact ⟨rp, q M' f⟩
  · rintro j hj r M' ⟨f, x4, rfl⟩ N hN
    wp_walk using lp1_l_right_29
    obtain ⟨k, ek⟩ := KR.n_cases (j : Nat) (by omega) (by omega)
    rw [ek]
    have ht2 : M' (tP K "_law_taken") = some (.tab (lq "_law_taken")) := by rw [f _ (by rw [ht]; simp), ht]
    refine ⟨k, d, rfl, rp.da, ht2, fun M1 f1 => ?_⟩
    have f2 : ∀ b, M b ≠ none → M1 b = M b := fun b hb => by rw [f1 b (by rw [f b hb]; exact hb), f b hb]
    cases hl : lieB .row d with
    | false =>
      rw [hl] at hN
      wp_walk using af1_l_right_29
      exact hN _ _ ⟨f2, _, rfl⟩
    | true =>
      rw [hl] at hN
      obtain ⟨ns, rfl, hs⟩ := isRowB_iff.mp hl
      wp_walk using af1_l_right_29
      refine ⟨k, _, rfl, rp.da, fun z => absurd (hl.symm.trans z) (by decide), fun ns' M3 a l e1 hs' f3 _ _ h3 => ?_⟩
      obtain rfl := ints_inj e1
      obtain ⟨⟨v1, ma1⟩, _⟩ := h3.there
      wp_walk using ma1
      refine form_at h3 hs ⟨rp_frm hs, k, ns, rfl, hs, rp_frm hs, ?_⟩
      rw [if_pos rfl]
      exact hN _ _ ⟨fun b hb => by rw [f3 b (by rw [f2 b hb]; exact hb), f2 b hb], _, rfl⟩
end LW
namespace LW
open PySem PySem.Spec PySem.W PyProof.Rows L2 DL
local macro_rules | `(tactic| wp_walk) => `(tactic| simp only [e_gSeq, e_gSet, e_gRet, e_gRetN, e_gNext, e_gIfS, e_gDrop, e_gOwn, e_gApp, e_gExt, e_gForM, e_gLcM, e_gCnt, e_gTryV, e_gTryE, e_gxP, e_gxM, DL.Fr.mute, e_gIPut, e_gFrz, frz, e_gAsg, e_gPar, e_gPar3, e_gAug, e_gRaise, e_gRetM, e_gSetM, e_gMPut, e_gMGet, e_g1, e_g2, e_gC, e_gV, e_gVw, e_gB, e_gAnd, e_gOr, e_gNot, e_gNotV, e_gIf, e_DL_gCons, e_DL_gNil, e_DL_gTup, e_DL_gLst, e_gFl, e_gFd, e_gCa, e_gLenS, e_gPart, e_gNoP, e_gDisp, e_gPcons, e_gPnil, e_gtN, e_gtTup, e_gtCons, e_gtNil, e_gYes, e_gFor, e_gLc, e_giS, e_gCallP, e_gCallM, e_gScr, entry, aSls, aSl, DL.Fr.set, OM.d, wipeF, wipeS, keyD, List.length_cons, List.length_nil, List.cons_append, List.nil_append, List.append_nil, List.replicate_succ, List.replicate_zero, List.getElem?_cons_zero, List.getElem?_cons_succ, List.getElem?_nil, List.set_cons_zero, List.set_cons_succ, Nat.reduceAdd, Nat.reduceSub, if_true, if_false, ite_true, ite_false, reduceIte, Bool.false_eq_true, Bool.not_true, Bool.not_false, List.all_cons, List.all_nil, Bool.and_true, true_and, and_true, List.map_cons, List.map_nil, e_gIdx, ixT_ints, intsOf_map, Int.reduceToNat, Option.some.injEq, exists_eq_left', e_goAdd_int, e_goAdd_str, e_goAdd_tup, e_goAdd_lst, e_goAddW_int, e_goAddW_lst, e_goPlus_int, e_goI_int, e_guI_int, e_gcI1_int, e_goIx_lst, e_gcLen_lst, e_gcTupleS_lst, e_gcList_lst, e_goRevA_lst, e_goIx_tup, e_gcLen_tup, e_gcTupleS_tup, e_gcList_tup, e_goRevA_tup, e_gcTuple_lst, e_goIx_str, e_gcLen_str, e_gcInt_int, e_gcInt_bl, e_goMulT_tup, e_goMulL_lst, e_goIsB_bl, e_goIsN_non, isN_int, isN_bl, isN_str, isN_tup, isN_lst, isN_dic, isN_ref, isN_ty, isN_non, gTru_k, e_truK_non, e_truK_bl, e_truK_int, e_truK_lst, e_truK_tup, e_truK_str, gFlist_k, e_lstK_lst, e_lstK_tup, gsSl_k, e_slK_lst, slK_tup, e_slK_str, itsD_k, e_itsK_lst, e_itsK_tup, giZip_k, e_zipK_lst, e_zipK_tup, giR1_k, ran1K_nat, e_ran1K_int, giR2_k, e_ran2K_int, e_goLtA_int, goLtA_tup, ok_non, eqv_bl, e_goEq_int, e_goNe_int, e_goEq_bl, e_goNe_bl, gcMin_ints, gcMinT_ints, gcMax_ints, gcMaxT_ints, intsOf_mapf, blsOf_mapf, gcMin_f, gcMax_f, gcMin_2, gcMax_2, gcSum_ints, gcSum_f, gcBls_f, all_mapid, any_mapid, at_0, at_1, at_2, at_3, at_last, noOwn_nil, noOwn_1, noOwn_2, nof_n, nof_v, nof_b, nof_s, zipD_map, enumD_map, isi_non_int, isi_non_bool, isi_non_str, isi_non_tuple, isi_non_list, isi_non_dict, isi_bl_int, isi_bl_bool, isi_bl_str, isi_bl_tuple, isi_bl_list, isi_bl_dict, isi_int_int, isi_int_bool, isi_int_str, isi_int_tuple, isi_int_list, isi_int_dict, isi_str_int, isi_str_bool, isi_str_str, isi_str_tuple, isi_str_list, isi_str_dict, isi_tup_int, isi_tup_bool, isi_tup_str, isi_tup_tuple, isi_tup_list, isi_tup_dict, isi_lst_int, isi_lst_bool, isi_lst_str, isi_lst_tuple, isi_lst_list, isi_lst_dict, isi_dic_int, isi_dic_bool, isi_dic_str, isi_dic_tuple, isi_dic_list, isi_dic_dict, gcAll, gcAny, goMod, goFdiv, decide_eq_true_eq, Bool.not_eq_true', decide_eq_false_iff_not, ite_not, Bool.and_eq_true, not_false_eq_true, Bool.not_eq_true, List.map_append, Int.zero_add, List.any_cons, List.any_nil, Bool.true_and, Bool.or_false, Bool.xor_false, Bool.false_xor, Bool.true_xor, Bool.not_not, forall_const, Int.toNat_natCast, List.length_map, List.length_append, and_self, ne_eq, List.map_eq_nil_iff, not_true_eq_false, eq_self, goMulI, goSub, goPow, goLe, goGt, goGe, guNeg, gcAbs, e_goEq_str, e_goNe_str, e_goEq_tup, e_goNe_tup, e_goEq_lst, e_goNe_lst, e_goEq_non, e_goNe_non, e_gAndV_k, e_gOrV_k, e_gCh_k, blK_bl, ite_bf, reduceCtorEq, Int.reducePow, Int.reduceLT, Int.reduceLE, Int.reduceNeg, sz0, se0, sz1, se1, sz2, se2, sz3, se3, sz4, se4, sz5, se5, sz6, se6, sz7, se7, sz8, se8, sz9, se9, e_gFld, e_fldK_ref, e_gPutF, e_gPutFM, e_putFK_ref, e_gDrf, e_drfK_ref, e_gMApp, e_mlK_ref, e_gMPop, e_popK_int, e_gMIns, ins2K_2, insK_int, e_gMeth, e_mthK_ref, e_gMake, e_giR3, e_gFlR1, e_gFlR2, e_rg2K_int, e_gLenSet, lenSetK_lst, lenSetK_tup, e_gMinD, minDK_lst, e_giMem, e_giBA, e_gMIdx, e_goTab, e_gFsort, sortK_lst, sortK_tup, e_gStep, e_stepK_lst, e_gAppM, e_gDictV, e_gFdict, e_dictK_lst, e_dictK_tup, e_dictK_dic, e_gDic0, e_gFdic0, e_gDGet1, e_gDGet2, e_dicK_dic, e_gOPut, e_gOPop, e_giKeys, e_gPconsI, e_gDispV, e_goIx_dic, e_gcLen_dic, e_lstK_dic, e_truK_dic, getK, dgetK, e_gOIns, ins2K_2, insK_int, e_gCallL, e_gAct, e_gxAct, gLamT, lamS, lam1, entryL, e_gxV, e_gItemsT, e_gFvals, e_giItems, e_gFsortD, e_sortDK_dic, kvD, goEqE_lst, goEqE_tup, List.isEmpty_cons, List.isEmpty_nil, gcReprA_1, gcStrA_1, goEqI_x, goAddB_ii, goAddB_bi, goAddB_ib, goSubB_ii, goSubB_bi, goSubB_ib, goMulB_ii, goMulB_bi, goMulB_ib, guNegB_i, guNegB_b])
local macro_rules | `(tactic| wp_walk using $ts,*) => `(tactic| simp only [$[$ts:term],*, e_gSeq, e_gSet, e_gRet, e_gRetN, e_gNext, e_gIfS, e_gDrop, e_gOwn, e_gApp, e_gExt, e_gForM, e_gLcM, e_gCnt, e_gTryV, e_gTryE, e_gxP, e_gxM, DL.Fr.mute, e_gIPut, e_gFrz, frz, e_gAsg, e_gPar, e_gPar3, e_gAug, e_gRaise, e_gRetM, e_gSetM, e_gMPut, e_gMGet, e_g1, e_g2, e_gC, e_gV, e_gVw, e_gB, e_gAnd, e_gOr, e_gNot, e_gNotV, e_gIf, e_DL_gCons, e_DL_gNil, e_DL_gTup, e_DL_gLst, e_gFl, e_gFd, e_gCa, e_gLenS, e_gPart, e_gNoP, e_gDisp, e_gPcons, e_gPnil, e_gtN, e_gtTup, e_gtCons, e_gtNil, e_gYes, e_gFor, e_gLc, e_giS, e_gCallP, e_gCallM, e_gScr, entry, aSls, aSl, DL.Fr.set, OM.d, wipeF, wipeS, keyD, List.length_cons, List.length_nil, List.cons_append, List.nil_append, List.append_nil, List.replicate_succ, List.replicate_zero, List.getElem?_cons_zero, List.getElem?_cons_succ, List.getElem?_nil, List.set_cons_zero, List.set_cons_succ, Nat.reduceAdd, Nat.reduceSub, if_true, if_false, ite_true, ite_false, reduceIte, Bool.false_eq_true, Bool.not_true, Bool.not_false, List.all_cons, List.all_nil, Bool.and_true, true_and, and_true, List.map_cons, List.map_nil, e_gIdx, ixT_ints, intsOf_map, Int.reduceToNat, Option.some.injEq, exists_eq_left', e_goAdd_int, e_goAdd_str, e_goAdd_tup, e_goAdd_lst, e_goAddW_int, e_goAddW_lst, e_goPlus_int, e_goI_int, e_guI_int, e_gcI1_int, e_goIx_lst, e_gcLen_lst, e_gcTupleS_lst, e_gcList_lst, e_goRevA_lst, e_goIx_tup, e_gcLen_tup, e_gcTupleS_tup, e_gcList_tup, e_goRevA_tup, e_gcTuple_lst, e_goIx_str, e_gcLen_str, e_gcInt_int, e_gcInt_bl, e_goMulT_tup, e_goMulL_lst, e_goIsB_bl, e_goIsN_non, isN_int, isN_bl, isN_str, isN_tup, isN_lst, isN_dic, isN_ref, isN_ty, isN_non, gTru_k, e_truK_non, e_truK_bl, e_truK_int, e_truK_lst, e_truK_tup, e_truK_str, gFlist_k, e_lstK_lst, e_lstK_tup, gsSl_k, e_slK_lst, slK_tup, e_slK_str, itsD_k, e_itsK_lst, e_itsK_tup, giZip_k, e_zipK_lst, e_zipK_tup, giR1_k, ran1K_nat, e_ran1K_int, giR2_k, e_ran2K_int, e_goLtA_int, goLtA_tup, ok_non, eqv_bl, e_goEq_int, e_goNe_int, e_goEq_bl, e_goNe_bl, gcMin_ints, gcMinT_ints, gcMax_ints, gcMaxT_ints, intsOf_mapf, blsOf_mapf, gcMin_f, gcMax_f, gcMin_2, gcMax_2, gcSum_ints, gcSum_f, gcBls_f, all_mapid, any_mapid, at_0, at_1, at_2, at_3, at_last, noOwn_nil, noOwn_1, noOwn_2, nof_n, nof_v, nof_b, nof_s, zipD_map, enumD_map, isi_non_int, isi_non_bool, isi_non_str, isi_non_tuple, isi_non_list, isi_non_dict, isi_bl_int, isi_bl_bool, isi_bl_str, isi_bl_tuple, isi_bl_list, isi_bl_dict, isi_int_int, isi_int_bool, isi_int_str, isi_int_tuple, isi_int_list, isi_int_dict, isi_str_int, isi_str_bool, isi_str_str, isi_str_tuple, isi_str_list, isi_str_dict, isi_tup_int, isi_tup_bool, isi_tup_str, isi_tup_tuple, isi_tup_list, isi_tup_dict, isi_lst_int, isi_lst_bool, isi_lst_str, isi_lst_tuple, isi_lst_list, isi_lst_dict, isi_dic_int, isi_dic_bool, isi_dic_str, isi_dic_tuple, isi_dic_list, isi_dic_dict, gcAll, gcAny, goMod, goFdiv, decide_eq_true_eq, Bool.not_eq_true', decide_eq_false_iff_not, ite_not, Bool.and_eq_true, not_false_eq_true, Bool.not_eq_true, List.map_append, Int.zero_add, List.any_cons, List.any_nil, Bool.true_and, Bool.or_false, Bool.xor_false, Bool.false_xor, Bool.true_xor, Bool.not_not, forall_const, Int.toNat_natCast, List.length_map, List.length_append, and_self, ne_eq, List.map_eq_nil_iff, not_true_eq_false, eq_self, goMulI, goSub, goPow, goLe, goGt, goGe, guNeg, gcAbs, e_goEq_str, e_goNe_str, e_goEq_tup, e_goNe_tup, e_goEq_lst, e_goNe_lst, e_goEq_non, e_goNe_non, e_gAndV_k, e_gOrV_k, e_gCh_k, blK_bl, ite_bf, reduceCtorEq, Int.reducePow, Int.reduceLT, Int.reduceLE, Int.reduceNeg, sz0, se0, sz1, se1, sz2, se2, sz3, se3, sz4, se4, sz5, se5, sz6, se6, sz7, se7, sz8, se8, sz9, se9, e_gFld, e_fldK_ref, e_gPutF, e_gPutFM, e_putFK_ref, e_gDrf, e_drfK_ref, e_gMApp, e_mlK_ref, e_gMPop, e_popK_int, e_gMIns, ins2K_2, insK_int, e_gMeth, e_mthK_ref, e_gMake, e_giR3, e_gFlR1, e_gFlR2, e_rg2K_int, e_gLenSet, lenSetK_lst, lenSetK_tup, e_gMinD, minDK_lst, e_giMem, e_giBA, e_gMIdx, e_goTab, e_gFsort, sortK_lst, sortK_tup, e_gStep, e_stepK_lst, e_gAppM, e_gDictV, e_gFdict, e_dictK_lst, e_dictK_tup, e_dictK_dic, e_gDic0, e_gFdic0, e_gDGet1, e_gDGet2, e_dicK_dic, e_gOPut, e_gOPop, e_giKeys, e_gPconsI, e_gDispV, e_goIx_dic, e_gcLen_dic, e_lstK_dic, e_truK_dic, getK, dgetK, e_gOIns, ins2K_2, insK_int, e_gCallL, e_gAct, e_gxAct, gLamT, lamS, lam1, entryL, e_gxV, e_gItemsT, e_gFvals, e_giItems, e_gFsortD, e_sortDK_dic, kvD, goEqE_lst, goEqE_tup, List.isEmpty_cons, List.isEmpty_nil, gcReprA_1, gcStrA_1, goEqI_x, goAddB_ii, goAddB_bi, goAddB_ib, goSubB_ii, goSubB_bi, goSubB_ib, goMulB_ii, goMulB_bi, goMulB_ib, guNegB_i, guNegB_b])
variable {K : PySem.W.Frag}
/-- a good row, forty-one things too -/
structure Good (ns : List Int) : Prop where
  len : ns.length ≤ 41
  rng : ∀ n ∈ ns, thingN n
theorem Good.od {ns : List Int} (h : Good ns) : Od 31 1 (.tup (ns.map .int)) := Od.tup (k := 0) fun x hx => by
  obtain ⟨n, hn, rfl⟩ := List.mem_map.mp hx
  have hr := h.rng n hn
  unfold thingN at hr
  exact .int (Nat.lt_of_lt_of_le (show n.natAbs < 10 ^ 6 by omega) (by decide))
theorem wt_things : ∀ {ns : List Int}, (∀ n ∈ ns, thingN n) → wtL (ns.map .int) ≤ 21 * ns.length
  | [], _ => Nat.le_refl _
  | n :: r, h => by
    have ih := wt_things (ns := r) fun m hm => h m (List.mem_cons_of_mem _ hm)
    have hr := h n (List.mem_cons_self ..)
    unfold thingN at hr
    have := wt_int (i := n) (k := 20) (by omega)
    show wtD (.int n) + 1 + wtL (r.map .int) ≤ 21 * (r.length + 1)
    omega
theorem Good.wt {ns : List Int} (h : Good ns) : wtD (.tup (ns.map .int)) ≤ 861 := by
  rw [wtD_tup]
  have := wt_things h.rng
  have := h.len
  omega
theorem Good.rp {ns : List Int} (h : Good ns) : Rp 60 16000000 (.tup (ns.map .int)) := h.od.rp (by decide) (by decide) (by decide) (Nat.le_trans h.wt (by decide))
theorem changed_dr {M : Mem} {a : Addr} {d : D} {m k e : Nat} {Q : D → Mem → Prop} {X : Addr → Mem → Prop} (ms : M a = some .st) (h : Od m k d) (h1 : 31 ≤ m) (h2 : m ≤ 35) (k1 : 1 ≤ k) (k2 : k ≤ 40) (hw : wtD d ≤ 240000) (he : ∀ xs, d = .tup xs → ∀ x ∈ xs, wtD x ≤ e)
    (q : ∀ d', OneCh (m + 1) (k + 2) (4 * wtD d + 42 * e + 400) d' → Q d' M) : fs_l_changed K [.ref a, d] M Q X := ⟨a, d, m, k, e, rfl, ms, h, h1, h2, k1, k2, hw, he, q⟩
theorem right_of {M : Mem} {d : D} {Q : D → Mem → Prop} {X : Addr → Mem → Prop} (h : Rp 60 16000000 d) (ht : M (tP K "_law_taken") = some (.tab (lq "_law_taken"))) (q : ∀ M' : Mem, (∀ b, M b ≠ none → M' b = M b) → Q (.bl true) M') : fs_l_right_29 K [d] M Q X := ⟨d, rfl, h, ht, q⟩
def fs_law_k35 (K : PySem.W.Frag) : FS := fun ds M Q _ => ∃ ns : List Int, ds = [.lst (ns.map .int)] ∧ ns.length ≤ 63 ∧ M (tP K "_law_taken") = some (.tab (lq "_law_taken")) ∧ ∀ M', Q (.bl true) M'
theorem mo_law_k35 {K : PySem.W.Frag} : MonoF (fs_law_k35 K) := fun _ _ _ _ _ _ h _ ⟨ns, e, c, c2, q⟩ => ⟨ns, e, c, c2, fun M' => h _ _ (q M')⟩
/-- law -/
def af1_law_k35 (K : PySem.W.Frag) : GS := gIfS (gOr (gNot (gTru (gCallM (fs_l_right_29 K) (gCons (gV 4) gNil)))) (gNot (gTru (gCallM (fs_l_right_29 K) (gCons (gV 3) gNil))))) (gRet (gC (.bl false))) (gNext)
def cu1_law_k35 (K : PySem.W.Frag) : GS := gSeq (gIfS (gB (g2 goEqA (gCallM (fs_l_take K) (gCons (gV 1) (gCons (gC (.int 3)) gNil))) (gC (.int 0)))) (gSet 4 (gCallM (fs_l_changed K) (gCons (gV 1) (gCons (gV 4) gNil)))) (gNext)) (af1_law_k35 K)
def af2_law_k35 (K : PySem.W.Frag) : GS := gSeq (gSet 4 (gCallM (fs_l_changed K) (gCons (gV 1) (gCons (gV 3) gNil)))) (cu1_law_k35 K)
def cu2_law_k35 (K : PySem.W.Frag) : GS := gSeq (gIfS (gB (g2 goEqA (gCallM (fs_l_take K) (gCons (gV 1) (gCons (gC (.int 3)) gNil))) (gC (.int 0)))) (gSet 3 (gCa gcTupleS (gCons (gFd (gLc (giR1 (gCons (g2 goAdd (gC (.int 40)) (gCallM (fs_l_take K) (gCons (gV 1) (gCons (gC (.int 2)) gNil)))) gNil)) (gtN 5) (gYes) (gCallM (fs_l_thing K) (gCons (gV 1) (gCons (gC (.int 4)) gNil))) [5])) gNil))) (gNext)) (af2_law_k35 K)
def lp1_law_k35 (K : PySem.W.Frag) : GS := gSeq (gSet 3 (gCa gcTupleS (gCons (gCallM (fs_l_row_2 K) (gCons (gV 1) (gCons (gC (.int 40)) gNil))) gNil))) (cu2_law_k35 K)
def af3_law_k35 (K : PySem.W.Frag) : GS := gRet (gC (.bl true))
def cu3_law_k35 (K : PySem.W.Frag) : GS := gSeq (gFor (giR1 (gCons (gCa gcMaxA (gCons (gC (.int 1)) (gCons (gCa gcMinA (gCons (gC (.int 12)) (gCons (gLenS 0) gNil))) gNil))) gNil)) (gtN 2) (lp1_law_k35 K)) (af3_law_k35 K)
def g_law_k35 (K : PySem.W.Frag) : GS := gSeq (gSet 1 (gCallM (fs_l_begun K) (gScr 0))) (cu3_law_k35 K)
section
variable {scr : List Int} {a : Addr} {ns : List Int} {d : D} {M : Mem} {x2 x4 x5 : Sl} {X : Addr → Mem → Prop} {D' : DEnds}
structure St (K : PySem.W.Frag) (a : Addr) (M : Mem) : Prop where
  ms : M a = some .st
  mt : M (tP K "_law_taken") = some (.tab (lq "_law_taken"))
theorem St.fr {M' : Mem} (h : St K a M) (f : ∀ b, M b ≠ none → M' b = M b) : St K a M' := ⟨by rw [f _ (by rw [h.ms]; simp), h.ms], by rw [f _ (by rw [h.mt]; simp), h.mt]⟩
theorem kf1 (h : St K a M) (g : Good ns) (hd : Rp 60 16000000 d) (q : ∀ M', St K a M' → D'.nx ⟨[.s scr, .v (.ref a), x2, .v (.tup (ns.map .int)), .v d, x5], X⟩ M') : af1_law_k35 K D' ⟨[.s scr, .v (.ref a), x2, .v (.tup (ns.map .int)), .v d, x5], X⟩ M := by
  wp_walk using af1_law_k35
  refine right_of hd h.mt fun M1 f1 => ?_
  wp_walk
  refine right_of g.rp (h.fr f1).mt fun M2 f2 => ?_
  wp_walk
  exact q M2 ((h.fr f1).fr f2)
theorem kf2 (h : St K a M) (g : Good ns) (q : ∀ M' d, St K a M' → D'.nx ⟨[.s scr, .v (.ref a), x2, .v (.tup (ns.map .int)), .v d, x5], X⟩ M') : af2_law_k35 K D' ⟨[.s scr, .v (.ref a), x2, .v (.tup (ns.map .int)), x4, x5], X⟩ M := by
  wp_walk using af2_law_k35
  refine changed_dr (K := K) (e := 20) h.ms g.od (by decide) (by decide) (by decide) (by decide) (Nat.le_trans g.wt (by decide)) (fun xs ex x hx => ?_) fun d hd => ?_
  · rw [← D.tup.inj ex] at hx
    obtain ⟨n, hn, rfl⟩ := List.mem_map.mp hx
    have hr := g.rng n hn
    unfold thingN at hr
    exact wt_int (by omega)
  have w1 := g.wt
  have w2 : wtD d ≤ 4684 := Nat.le_trans hd.wt (by omega)
  wp_walk using cu1_law_k35
  refine take_of (K := K) h.ms (by omega) (by omega) fun t t0 t1 => ?_
  wp_walk
  by_cases z : t = 0
  · rw [if_pos z]
    refine changed_dr (K := K) (e := 4684) h.ms hd.od (by decide) (by decide) (by decide) (by decide) (by omega) (fun xs ex x hx => ?_) fun d2 hd2 => ?_
    · rw [ex, wtD_tup] at w2
      have := wtL_mem hx
      omega
    have w3 : wtD d2 ≤ 300000 := Nat.le_trans hd2.wt (by omega)
    wp_walk
    exact kf1 h g (hd2.od.rp (by decide) (by decide) (by decide) w3) fun M' h' => q M' _ h'
  · rw [if_neg z]
    exact kf1 h g (hd.od.rp (by decide) (by decide) (by decide) (by omega)) fun M' h' => q M' _ h'
end
theorem h_law_k35 {K : PySem.W.Frag} : ∀ ds M Q X, (fs_law_k35 K) ds M Q X → ds.length = ([.s] : List AK).length → g_law_k35 K { nx := fun _ M' => Q .non M', rt := Q } (entry 6 [.s] ds X) M := by
  rintro ds M Q X ⟨scr, rfl, hl, ht, q⟩ -
  wp_walk using g_law_k35
  refine ⟨scr, rfl, hl, fun a na => ?_⟩
  have h : St K a (mup M a .st) := ⟨mup_same, by
    rw [mup_ne fun z => by rw [z, na] at ht; cases ht]
    exact ht⟩
  generalize mup M a .st = M1 at h ⊢
  wp_walk using cu3_law_k35
  refine ⟨by omega, ?_⟩
  unfold rngD
  refine loop_rng (fun j r M' => St K a M' ∧ ∃ x2 x3 x4 : Sl, r = ⟨[.s scr, .v (.ref a), x2, x3, x4, .n], X⟩) _ ?_ ?_ _ _ ⟨h, _, _, _, rfl⟩
  · rintro r M' ⟨_, x2, x3, x4, rfl⟩
    wp_walk using af3_law_k35
    exact q _
  · rintro j hj r M' ⟨h, x2, x3, x4, rfl⟩ N hN
    wp_walk using lp1_law_k35
    refine row_dr (K := K) h.ms (by decide) (by decide) fun ns hs => ?_
    wp_walk using cu2_law_k35
    refine take_of (K := K) h.ms (by omega) (by omega) fun t t0 t1 => ?_
    wp_walk
    by_cases z : t = 0
    · rw [if_pos z]
      refine take_of (K := K) h.ms (by omega) (by omega) fun u u0 u1 => ?_
      wp_walk
      refine ⟨by omega, ?_⟩
      generalize hm : (40 + u).toNat = m
      have hm2 : m ≤ 41 := by omega
      unfold rngD
      refine lc_dr (xs := List.range m) (enc := fun (i : Nat) => D.int (0 + i)) (P := fun _ d => ∃ v, d = .int v ∧ thingN v) (fun k hk Q' q' => ?_) (size_of (by simp; omega)) fun zs hz hp => ?_
      · wp_walk
        exact thing_dr (K := K) h.ms (by decide) fun v v0 v1 => q' _ ⟨v, rfl, v0, v1⟩
      obtain ⟨ms, rfl, hln, hrn⟩ : ∃ ns : List Int, zs = ns.map .int ∧ ns.length = zs.length ∧ ∀ x ∈ ns, thingN x := by
        refine ints_of fun d hd => ?_
        obtain ⟨i, hi, rfl⟩ := List.mem_iff_getElem.mp hd
        have hi2 : i < m := by rw [hz, List.length_range] at hi; exact hi
        exact hp i i _ (by rw [List.getElem?_range hi2]) (List.getElem?_eq_getElem hi)
      rw [List.nil_append]
      exact kf2 h ⟨by rw [hz, List.length_range] at hln; omega, hrn⟩ fun M2 d h2 => hN _ _ ⟨h2, _, _, _, rfl⟩
    · rw [if_neg z]
      exact kf2 h ⟨by have := hs.len; omega, hs.rng⟩ fun M2 d h2 => hN _ _ ⟨h2, _, _, _, rfl⟩
end LW
namespace LW
open PySem PySem.Spec PySem.W PyProof.Rows L2 DL
def topS (i : Nat) : Stmt := PySem.Challenge.pw_turnshelf_k35_rows_spoilt_anywhere.main.body.getD i (.Pass ⟨0, 0, 0, 0⟩)
def mthS (i j : Nat) : Stmt := match topS i with
  | .ClassDef _ _ _ b _ _ _ _ _ _ _ => b.getD j (.Pass ⟨0, 0, 0, 0⟩)
  | st => st
def ts : List He.Tab := [((fun K => He.ga K "SET_WORDS"), ["put", "take", "has", "next", "rank"]), ((fun K => He.ga K "ROW_WORDS"), ["at", "into", "out", "find"]), ((fun K => He.ga K "MAP_WORDS"), ["set", "get", "drop", "next"]), ((fun K => He.ga K "WORDS"), ["set", "row", "map"])]
def cs : List Ck := [.tab "SET_WORDS" (fun K => [("put", .int 1), ("take", .int 1), ("has", .int 1), ("next", .int 1), ("rank", .int 1)]), .tab "ROW_WORDS" (fun K => [("at", .int 1), ("into", .int 2), ("out", .int 1), ("find", .int 1)]), .tab "MAP_WORDS" (fun K => [("set", .int 2), ("get", .int 1), ("drop", .int 1), ("next", .int 1)]), .tab "WORDS" (fun K => [("set", .ref (He.ga K "SET_WORDS")), ("row", .ref (He.ga K "ROW_WORDS")), ("map", .ref (He.ga K "MAP_WORDS"))]), .cods ["_law_taken"], .exq "NoChoice", .isq "NoChoice" (fun K => .ref (He.ga K "NoThings")) false, .exq "NoCosts", .isq "NoCosts" (fun K => .ref (He.ga K "NoThings")) false, .exq "NoDeed", .isq "NoDeed" (fun K => .ref (He.ga K "NoThings")) false, .exq "NoKind", .isq "NoKind" (fun K => .ref (He.ga K "NoThings")) false, .exq "NoProgram", .isq "NoProgram" (fun K => .ref (He.ga K "NoThings")) false, .exq "NoRow", .isq "NoRow" (fun K => .ref (He.ga K "NoThings")) false, .exq "NoRun", .isq "NoRun" (fun K => .ref (He.ga K "NoThings")) false, .exq "NoShelf", .isq "NoShelf" (fun K => .ref (He.ga K "NoThings")) false, .exq "NoSort", .isq "NoSort" (fun K => .ref (He.ga K "NoThings")) false, .exq "NoText", .isq "NoText" (fun K => .ref (He.ga K "NoThings")) false, .exq "NoThings", .isq "NoThings" (fun K => .ref (He.ga K "NoThings")) true, .exq "TooMany", .isq "TooMany" (fun K => .ref (He.ga K "NoThings")) false, .isq "NoChoice" (fun K => .ref (He.ga K "NoDeed")) false, .isq "NoCosts" (fun K => .ref (He.ga K "NoDeed")) false, .isq "NoDeed" (fun K => .ref (He.ga K "NoDeed")) true, .isq "NoKind" (fun K => .ref (He.ga K "NoDeed")) false, .isq "NoProgram" (fun K => .ref (He.ga K "NoDeed")) false, .isq "NoRow" (fun K => .ref (He.ga K "NoDeed")) false, .isq "NoRun" (fun K => .ref (He.ga K "NoDeed")) false, .isq "NoShelf" (fun K => .ref (He.ga K "NoDeed")) false, .isq "NoSort" (fun K => .ref (He.ga K "NoDeed")) false, .isq "NoText" (fun K => .ref (He.ga K "NoDeed")) false, .isq "NoThings" (fun K => .ref (He.ga K "NoDeed")) false, .isq "TooMany" (fun K => .ref (He.ga K "NoDeed")) false, .isq "NoChoice" (fun K => .ref (He.ga K "TooMany")) false, .isq "NoCosts" (fun K => .ref (He.ga K "TooMany")) false, .isq "NoDeed" (fun K => .ref (He.ga K "TooMany")) false, .isq "NoKind" (fun K => .ref (He.ga K "TooMany")) false, .isq "NoProgram" (fun K => .ref (He.ga K "TooMany")) false, .isq "NoRow" (fun K => .ref (He.ga K "TooMany")) false, .isq "NoRun" (fun K => .ref (He.ga K "TooMany")) false, .isq "NoShelf" (fun K => .ref (He.ga K "TooMany")) false, .isq "NoSort" (fun K => .ref (He.ga K "TooMany")) false, .isq "NoText" (fun K => .ref (He.ga K "TooMany")) false, .isq "NoThings" (fun K => .ref (He.ga K "TooMany")) false, .isq "TooMany" (fun K => .ref (He.ga K "TooMany")) true, .isq "NoChoice" (fun K => .tup [.ref (He.ga K "NoSort"), .ref (He.ga K "NoKind"), .ref (He.ga K "NoProgram")]) false, .isq "NoCosts" (fun K => .tup [.ref (He.ga K "NoSort"), .ref (He.ga K "NoKind"), .ref (He.ga K "NoProgram")]) false, .isq "NoDeed" (fun K => .tup [.ref (He.ga K "NoSort"), .ref (He.ga K "NoKind"), .ref (He.ga K "NoProgram")]) false, .isq "NoKind" (fun K => .tup [.ref (He.ga K "NoSort"), .ref (He.ga K "NoKind"), .ref (He.ga K "NoProgram")]) true, .isq "NoProgram" (fun K => .tup [.ref (He.ga K "NoSort"), .ref (He.ga K "NoKind"), .ref (He.ga K "NoProgram")]) true, .isq "NoRow" (fun K => .tup [.ref (He.ga K "NoSort"), .ref (He.ga K "NoKind"), .ref (He.ga K "NoProgram")]) false, .isq "NoRun" (fun K => .tup [.ref (He.ga K "NoSort"), .ref (He.ga K "NoKind"), .ref (He.ga K "NoProgram")]) false, .isq "NoShelf" (fun K => .tup [.ref (He.ga K "NoSort"), .ref (He.ga K "NoKind"), .ref (He.ga K "NoProgram")]) false, .isq "NoSort" (fun K => .tup [.ref (He.ga K "NoSort"), .ref (He.ga K "NoKind"), .ref (He.ga K "NoProgram")]) true, .isq "NoText" (fun K => .tup [.ref (He.ga K "NoSort"), .ref (He.ga K "NoKind"), .ref (He.ga K "NoProgram")]) false, .isq "NoThings" (fun K => .tup [.ref (He.ga K "NoSort"), .ref (He.ga K "NoKind"), .ref (He.ga K "NoProgram")]) false, .isq "TooMany" (fun K => .tup [.ref (He.ga K "NoSort"), .ref (He.ga K "NoKind"), .ref (He.ga K "NoProgram")]) false, .isq "NoChoice" (fun K => .tup [.ref (He.ga K "NoText"), .ref (He.ga K "NoRun"), .ref (He.ga K "NoCosts")]) false, .isq "NoCosts" (fun K => .tup [.ref (He.ga K "NoText"), .ref (He.ga K "NoRun"), .ref (He.ga K "NoCosts")]) true, .isq "NoDeed" (fun K => .tup [.ref (He.ga K "NoText"), .ref (He.ga K "NoRun"), .ref (He.ga K "NoCosts")]) false, .isq "NoKind" (fun K => .tup [.ref (He.ga K "NoText"), .ref (He.ga K "NoRun"), .ref (He.ga K "NoCosts")]) false, .isq "NoProgram" (fun K => .tup [.ref (He.ga K "NoText"), .ref (He.ga K "NoRun"), .ref (He.ga K "NoCosts")]) false, .isq "NoRow" (fun K => .tup [.ref (He.ga K "NoText"), .ref (He.ga K "NoRun"), .ref (He.ga K "NoCosts")]) false, .isq "NoRun" (fun K => .tup [.ref (He.ga K "NoText"), .ref (He.ga K "NoRun"), .ref (He.ga K "NoCosts")]) true, .isq "NoShelf" (fun K => .tup [.ref (He.ga K "NoText"), .ref (He.ga K "NoRun"), .ref (He.ga K "NoCosts")]) false, .isq "NoSort" (fun K => .tup [.ref (He.ga K "NoText"), .ref (He.ga K "NoRun"), .ref (He.ga K "NoCosts")]) false, .isq "NoText" (fun K => .tup [.ref (He.ga K "NoText"), .ref (He.ga K "NoRun"), .ref (He.ga K "NoCosts")]) true, .isq "NoThings" (fun K => .tup [.ref (He.ga K "NoText"), .ref (He.ga K "NoRun"), .ref (He.ga K "NoCosts")]) false, .isq "TooMany" (fun K => .tup [.ref (He.ga K "NoText"), .ref (He.ga K "NoRun"), .ref (He.ga K "NoCosts")]) false, .isq "NoChoice" (fun K => .tup [.ref (He.ga K "NoChoice"), .ref (He.ga K "NoShelf"), .ref (He.ga K "NoRow")]) true, .isq "NoCosts" (fun K => .tup [.ref (He.ga K "NoChoice"), .ref (He.ga K "NoShelf"), .ref (He.ga K "NoRow")]) false, .isq "NoDeed" (fun K => .tup [.ref (He.ga K "NoChoice"), .ref (He.ga K "NoShelf"), .ref (He.ga K "NoRow")]) false, .isq "NoKind" (fun K => .tup [.ref (He.ga K "NoChoice"), .ref (He.ga K "NoShelf"), .ref (He.ga K "NoRow")]) false, .isq "NoProgram" (fun K => .tup [.ref (He.ga K "NoChoice"), .ref (He.ga K "NoShelf"), .ref (He.ga K "NoRow")]) false, .isq "NoRow" (fun K => .tup [.ref (He.ga K "NoChoice"), .ref (He.ga K "NoShelf"), .ref (He.ga K "NoRow")]) true, .isq "NoRun" (fun K => .tup [.ref (He.ga K "NoChoice"), .ref (He.ga K "NoShelf"), .ref (He.ga K "NoRow")]) false, .isq "NoShelf" (fun K => .tup [.ref (He.ga K "NoChoice"), .ref (He.ga K "NoShelf"), .ref (He.ga K "NoRow")]) true, .isq "NoSort" (fun K => .tup [.ref (He.ga K "NoChoice"), .ref (He.ga K "NoShelf"), .ref (He.ga K "NoRow")]) false, .isq "NoText" (fun K => .tup [.ref (He.ga K "NoChoice"), .ref (He.ga K "NoShelf"), .ref (He.ga K "NoRow")]) false, .isq "NoThings" (fun K => .tup [.ref (He.ga K "NoChoice"), .ref (He.ga K "NoShelf"), .ref (He.ga K "NoRow")]) false, .isq "TooMany" (fun K => .tup [.ref (He.ga K "NoChoice"), .ref (He.ga K "NoShelf"), .ref (He.ga K "NoRow")]) false, .isq "NoChoice" (fun K => .ty "ValueError") true, .isq "NoCosts" (fun K => .ty "ValueError") true, .isq "NoDeed" (fun K => .ty "ValueError") true, .isq "NoKind" (fun K => .ty "ValueError") true, .isq "NoProgram" (fun K => .ty "ValueError") true, .isq "NoRow" (fun K => .ty "ValueError") true, .isq "NoRun" (fun K => .ty "ValueError") true, .isq "NoShelf" (fun K => .ty "ValueError") true, .isq "NoSort" (fun K => .ty "ValueError") true, .isq "NoText" (fun K => .ty "ValueError") true, .isq "NoThings" (fun K => .ty "ValueError") true, .isq "TooMany" (fun K => .ty "ValueError") true]
abbrev xsL : List PySem.Str := ["_law_taken"]
def fa : List He.Fa := [.glo "_law_begun", .glo "_law_take", .glo "_law_pick", .glo "_law_one_changed", .glo "_law_changed", .glo "_law_thing", .glo "_law_size", .glo "_law_row", .glo "_law_lies", .glo "need_sort", .glo "are_unlike", .glo "is_thing", .glo "is_pair", .glo "is_things", .glo "_law_word", .glo "need_row", .glo "chain_of", .glo "blocks_of", .glo "_law_shelf", .glo "_law_taken", .glo "_law_form", .glo "_law_right", .glo "law", .free "ValueError", .free "abs", .free "all", .free "bool", .free "int", .free "isinstance", .free "len", .free "list", .free "max", .free "min", .free "range", .free "repr", .free "set", .free "str", .free "tuple", .int "MOST_THERE" 40, .int "LAST_THING" 999999, .int "WIDE" 8, .glo "Strip", .cls "Strip", .mkr "Strip", .noat "Strip" "there", .meth "Strip" "form", .glo "Blocks", .cls "Blocks", .mkr "Blocks", .noat "Blocks" "blocks", .meth "Blocks" "form", .glo "Chain", .cls "Chain", .mkr "Chain", .noat "Chain" "chain", .meth "Chain" "form", .glo "SET_WORDS", .glo "ROW_WORDS", .glo "MAP_WORDS", .glo "WORDS", .glo "NoSort", .exc "NoSort", .glo "NoThings", .exc "NoThings", .glo "ShelfError", .exm "NoChoice" "ShelfError" true, .exm "NoCosts" "ShelfError" true, .exm "NoDeed" "ShelfError" true, .exm "NoKind" "ShelfError" true, .exm "NoProgram" "ShelfError" true, .exm "NoRow" "ShelfError" true, .exm "NoRun" "ShelfError" true, .exm "NoShelf" "ShelfError" true, .exm "NoSort" "ShelfError" true, .exm "NoText" "ShelfError" true, .exm "NoThings" "ShelfError" true, .exm "TooMany" "ShelfError" true, .glo "NoDeed", .glo "TooMany", .glo "NoKind", .glo "NoProgram", .glo "NoText", .glo "NoRun", .glo "NoCosts", .glo "NoChoice", .glo "NoShelf", .glo "NoRow"]
def fn : List He.DefD := [⟨("_law_begun", none), "_law_begun", "_law_begun", defArgs (topS 45), defBody (topS 45), defScope (topS 45), [], []⟩,
  ⟨("_law_take", none), "_law_take", "_law_take", defArgs (topS 46), defBody (topS 46), defScope (topS 46), [], []⟩,
  ⟨("_law_pick", none), "_law_pick", "_law_pick", defArgs (topS 47), defBody (topS 47), defScope (topS 47), [], []⟩,
  ⟨("_law_one_changed", none), "_law_one_changed", "_law_one_changed", defArgs (topS 53), defBody (topS 53), defScope (topS 53), [], []⟩,
  ⟨("_law_changed", none), "_law_changed", "_law_changed", defArgs (topS 54), defBody (topS 54), defScope (topS 54), [], []⟩,
  ⟨("_law_thing", none), "_law_thing", "_law_thing", defArgs (topS 48), defBody (topS 48), defScope (topS 48), [], []⟩,
  ⟨("_law_size", none), "_law_size", "_law_size", defArgs (topS 49), defBody (topS 49), defScope (topS 49), [], []⟩,
  ⟨("_law_row", none), "_law_row", "_law_row", defArgs (topS 50), defBody (topS 50), defScope (topS 50), [], []⟩,
  ⟨("_law_lies", none), "_law_lies", "_law_lies", defArgs (topS 52), defBody (topS 52), defScope (topS 52), [], []⟩,
  ⟨("need_sort", none), "need_sort", "need_sort", defArgs (topS 21), defBody (topS 21), defScope (topS 21), [], []⟩,
  ⟨("are_unlike", none), "are_unlike", "are_unlike", defArgs (topS 24), defBody (topS 24), defScope (topS 24), [], []⟩,
  ⟨("is_thing", none), "is_thing", "is_thing", defArgs (topS 22), defBody (topS 22), defScope (topS 22), [], []⟩,
  ⟨("is_pair", none), "is_pair", "is_pair", defArgs (topS 23), defBody (topS 23), defScope (topS 23), [], []⟩,
  ⟨("is_things", none), "is_things", "is_things", defArgs (topS 25), defBody (topS 25), defScope (topS 25), [], []⟩,
  ⟨("_law_word", none), "_law_word", "_law_word", defArgs (topS 51), defBody (topS 51), defScope (topS 51), [], []⟩,
  ⟨("need_row", none), "need_row", "need_row", defArgs (topS 29), defBody (topS 29), defScope (topS 29), [], []⟩,
  ⟨("chain_of", none), "chain_of", "chain_of", defArgs (topS 40), defBody (topS 40), defScope (topS 40), [], []⟩,
  ⟨("blocks_of", none), "blocks_of", "blocks_of", defArgs (topS 35), defBody (topS 35), defScope (topS 35), [], []⟩,
  ⟨("_law_shelf", none), "_law_shelf", "_law_shelf", defArgs (topS 56), defBody (topS 56), defScope (topS 56), [], []⟩,
  ⟨("_law_taken", none), "_law_taken", "_law_taken", defArgs (topS 57), defBody (topS 57), defScope (topS 57), [], []⟩,
  ⟨("_law_form", none), "_law_form", "_law_form", defArgs (topS 55), defBody (topS 55), defScope (topS 55), [], []⟩,
  ⟨("_law_right", none), "_law_right", "_law_right", defArgs (topS 58), defBody (topS 58), defScope (topS 58), [], []⟩,
  ⟨("law", none), "law", "law", defArgs (topS 59), defBody (topS 59), defScope (topS 59), [], []⟩,
  ⟨("Strip", some "__init__"), "__init__", "Strip.__init__", defArgs (mthS 32 0), defBody (mthS 32 0), defScope (mthS 32 0), [], []⟩,
  ⟨("Chain", some "__init__"), "__init__", "Chain.__init__", defArgs (mthS 43 0), defBody (mthS 43 0), defScope (mthS 43 0), [], []⟩,
  ⟨("Blocks", some "__init__"), "__init__", "Blocks.__init__", defArgs (mthS 38 0), defBody (mthS 38 0), defScope (mthS 38 0), [], []⟩,
  ⟨("Strip", some "form"), "form", "Strip.form", defArgs (mthS 32 5), defBody (mthS 32 5), defScope (mthS 32 5), [], []⟩,
  ⟨("Blocks", some "form"), "form", "Blocks.form", defArgs (mthS 38 5), defBody (mthS 38 5), defScope (mthS 38 5), [], []⟩,
  ⟨("Chain", some "form"), "form", "Chain.form", defArgs (mthS 43 5), defBody (mthS 43 5), defScope (mthS 43 5), [], []⟩]
section
variable {P : Program} {w : World} {K : PySem.W.Frag} {mg : Str → Option Value} {base : Heap}
abbrev st_l_begun : Stmt := topS 45
abbrev nm_l_begun : List PySem.Str := ["_law_script", "_law_cell"]
theorem sc_l_begun : FnScope nm_l_begun ["_law_script"] (defScope st_l_begun) := ⟨rfl, rfl, rfl, by decide +kernel, rfl, by decide +kernel, by decide +kernel⟩
theorem ok_l_begun (T : WorC fa fn ts cs w K mg) : Def P w K mg base 1 "_law_begun" ["_law_script"] [.s] (fs_l_begun K) :=
  (T.def_ 0 (g := g_l_begun K) sc_l_begun (hbd := fun _ _ _ _ _ _ us hl => match us, hl with | [_], _ => rfl) (hmo := mo_l_begun)
    (hbody := fun f cdv A outer s H E hr hgd => dss_one (ds_retM (p := true) (df_disp (dps_cons ((df_comp (own := [("_law_cell", 1)]) rfl sc_l_begun.nd (di_scr 0) (blkOk_by (N := nm_l_begun) (sc := defScope st_l_begun) (by decide +kernel)) (fun _ _ _ _ _ => dt_name 1 sc_l_begun.nd) (fun _ _ _ _ _ => dtts_nil) (fun _ _ _ _ _ => de_callB ca_abs (by rfl) (T.free 24) (by decide +kernel) (da_one (de_var 1)))).de) (dps_cons (de_int) (dps_cons (de_int) (dps_cons (de_int) (dps_cons (de_add (de_int) (de_lenS 0 (by rfl) (T.free 29))) (dps_nil)))))))))
    (hfs := h_l_begun)).begun
abbrev st_l_take : Stmt := topS 46
abbrev nm_l_take : List PySem.Str := ["_law_state", "_law_many", "_law_cells", "_law_found", "_law_cell"]
theorem sc_l_take : FnScope nm_l_take ["_law_state", "_law_many"] (defScope st_l_take) := ⟨rfl, rfl, rfl, by decide +kernel, rfl, by decide +kernel, by decide +kernel⟩
theorem ok_l_take (T : WorC fa fn ts cs w K mg) : Def P w K mg base 1 "_law_take" ["_law_state", "_law_many"] [.v, .v] (fs_l_take K) :=
  (T.def_ 1 (g := g_l_take K) sc_l_take (hbd := fun _ _ _ _ _ _ us hl => match us, hl with | [_, _], _ => rfl) (hmo := mo_l_take)
    (hbody := fun f cdv A outer s H E hr hgd => dss_cons (ds_set (p := true) 2 sc_l_take.nd (de_mget (hu_ hr) (de_var 0) (de_str)))
    (dss_cons (ds_while (p := true) (passes_of rfl) ((dw_and (dt_cmp (od_ltA (hu_ (n := 0) hr)) (de_mget (hu_ hr) (de_var 0) (de_str)) (de_int)) (dw_and1 (dt_cmp (od_ltA (hu_ (n := 0) hr)) (de_mget (hu_ hr) (de_var 0) (de_str)) (de_callB ca_len (by rfl) (T.free 29) (by decide +kernel) (da_one (de_var 2)))))).dt) (dss_cons (ds_if (p := true) (dt_cmp od_ge (de_ix (hu_ hr) (de_var 2) (de_mget (hu_ hr) (de_var 0) (de_str))) (de_op od_pow (de_int) (de_int))) (dss_one (ds_mput (p := true) (hu_ hr) (de_var 0) (de_str) (de_ix (hu_ hr) (de_var 2) (de_mget (hu_ hr) (de_var 0) (de_str))))) (dss_nil))
    (dss_one (ds_mput (p := true) (hu_ hr) (de_var 0) (de_str) (de_add (de_mget (hu_ hr) (de_var 0) (de_str)) (de_int))))))
    (dss_cons (ds_if (p := true) (dt_cmp od_gt (de_mget (hu_ hr) (de_var 0) (de_str)) (de_int)) (dss_cons (ds_set (p := true) 3 sc_l_take.nd (de_op od_mod (de_mget (hu_ hr) (de_var 0) (de_str)) (de_var 1)))
    (dss_cons (ds_mput (p := true) (hu_ hr) (de_var 0) (de_str) (de_op od_fdiv (de_mget (hu_ hr) (de_var 0) (de_str)) (de_var 1)))
    (dss_one (ds_ret (p := true) (de_var 3))))) (dss_nil))
    (dss_cons (ds_set (p := true) 4 sc_l_take.nd (de_int))
    (dss_cons (ds_if (p := true) (dt_cmp od_gt (de_callB ca_len (by rfl) (T.free 29) (by decide +kernel) (da_one (de_var 2))) (de_int)) (dss_one (ds_set (p := true) 4 sc_l_take.nd (de_ix (hu_ hr) (de_var 2) (de_op od_mod (de_mget (hu_ hr) (de_var 0) (de_str)) (de_callB ca_len (by rfl) (T.free 29) (by decide +kernel) (da_one (de_var 2))))))) (dss_nil))
    (dss_cons (ds_mput (p := true) (hu_ hr) (de_var 0) (de_str) (de_add (de_mget (hu_ hr) (de_var 0) (de_str)) (de_int)))
    (dss_cons (ds_mput (p := true) (hu_ hr) (de_var 0) (de_str) (de_op od_mod (de_add (de_add (de_op od_mulI (de_mget (hu_ hr) (de_var 0) (de_str)) (de_int)) (de_var 4)) (de_mget (hu_ hr) (de_var 0) (de_str))) (de_int)))
    (dss_one (ds_ret (p := true) (de_op od_mod (de_op od_mod (de_add (de_op od_mulI (de_mget (hu_ hr) (de_var 0) (de_str)) (de_mget (hu_ hr) (de_var 0) (de_str))) (de_op od_mulI (de_int) (de_mget (hu_ hr) (de_var 0) (de_str)))) (de_int)) (de_var 1)))))))))))
    (hfs := h_l_take)).draw
abbrev st_l_pick : Stmt := topS 47
abbrev nm_l_pick : List PySem.Str := ["_law_state", "_law_some"]
theorem sc_l_pick : FnScope nm_l_pick ["_law_state", "_law_some"] (defScope st_l_pick) := ⟨rfl, rfl, rfl, by decide +kernel, rfl, by decide +kernel, by decide +kernel⟩
theorem ok_l_pick (T : WorC fa fn ts cs w K mg) : Def P w K mg base 2 "_law_pick" ["_law_state", "_law_some"] [.v, .v] (fs_l_pick K) :=
  T.def_ 2 (g := g_l_pick K) sc_l_pick (hbd := fun _ _ _ _ _ _ us hl => match us, hl with | [_, _], _ => rfl) (hmo := mo_l_pick)
    (hbody := fun f cdv A outer s H E hr hgd => dss_one (ds_ret (p := false) (de_ix (hu_ hr) (de_var 1) (dc_m ((ok_l_take T)) hr hgd (dak_cons (k := .v) (de_var 0) (dak_one (k := .v) (de_callB ca_len (by rfl) (T.free 29) (by decide +kernel) (da_one (de_var 1)))))))))
    (hfs := h_l_pick)
abbrev st_l_one_changed : Stmt := topS 53
abbrev nm_l_one_changed : List PySem.Str := ["_law_state", "_law_one", "_law_some"]
theorem sc_l_one_changed : FnScope nm_l_one_changed ["_law_state", "_law_one"] (defScope st_l_one_changed) := ⟨rfl, rfl, rfl, by decide +kernel, rfl, by decide +kernel, by decide +kernel⟩
theorem ok_l_one_changed (T : WorC fa fn ts cs w K mg) (TB : TBS K mg base xsL) : Def P w K mg base 3 "_law_one_changed" ["_law_state", "_law_one"] [.v, .v] (fs_l_one_changed K) :=
  T.def_ 3 (g := g_l_one_changed K) sc_l_one_changed (hbd := fun _ _ _ _ _ _ us hl => match us, hl with | [_, _], _ => rfl) (hmo := mo_l_one_changed)
    (hbody := fun f cdv A outer s H E hr hgd => dss_cons (ds_set (p := true) 2 sc_l_one_changed.nd (de_lstN (an_cons (de_cmp (od_eqI (hu_ hr)) (de_var 1) (de_int)) (an_cons (de_callTy (ca_strA (hu_ hr) hgd TB.2) (by rfl) (T.free 36) (by decide +kernel) (da_one (de_var 1))) (an_cons (de_non) (an_cons (de_tupN (an_cons (de_var 1) an_nil)) (an_cons (de_lstN (an_cons (de_var 1) an_nil)) (an_cons (de_int) (an_cons (de_un ud_neg (de_int)) (an_cons (de_tupN (an_nil)) (an_cons (de_str) (an_cons (de_dic0) (an_cons (de_op od_pow (de_int) (de_int)) an_nil)))))))))))))
    (dss_cons (ds_if (p := true) (dt_tru (de_callB ca_isi (by rfl) (T.free 28) (by decide +kernel) (da_cons (de_var 1) (da_one (de_ty (by rfl) (T.free 27) (by decide +kernel)))))) (dss_one (ds_set (p := true) 2 sc_l_one_changed.nd (de_add (de_var 2) (de_lstN (an_cons (de_op od_addB (de_var 1) (de_int)) (an_cons (de_op od_subB (de_var 1) (de_int)) (an_cons (de_un ud_negB (de_var 1)) (an_cons (de_op od_subB (de_un ud_neg (de_int)) (de_var 1)) (an_cons (de_op od_mulB (de_var 1) (de_int)) (an_cons (de_op od_addB (de_var 1) (de_int)) (an_cons (de_op od_subB (de_var 1) (de_int)) an_nil))))))))))) (dss_nil))
    (dss_one (ds_ret (p := false) (dc_m ((ok_l_pick T)) hr hgd (dak_cons (k := .v) (de_var 0) (dak_one (k := .v) (de_var 2))))))))
    (hfs := h_l_one_changed)
abbrev st_l_changed : Stmt := topS 54
abbrev nm_l_changed : List PySem.Str := ["_law_state", "_law_things", "_law_at", "_law_way", "_law_two", "_law_some"]
theorem sc_l_changed : FnScope nm_l_changed ["_law_state", "_law_things"] (defScope st_l_changed) := ⟨rfl, rfl, rfl, by decide +kernel, rfl, by decide +kernel, by decide +kernel⟩
theorem ok_l_changed (T : WorC fa fn ts cs w K mg) (TB : TBS K mg base xsL) : Def P w K mg base 4 "_law_changed" ["_law_state", "_law_things"] [.v, .v] (fs_l_changed K) :=
  T.def_ 4 (g := g_l_changed K) sc_l_changed (hbd := fun _ _ _ _ _ _ us hl => match us, hl with | [_, _], _ => rfl) (hmo := mo_l_changed)
    (hbody := fun f cdv A outer s H E hr hgd => dss_cons (ds_if (p := true) (dt_not (dt_tru (de_callB ca_isi (by rfl) (T.free 28) (by decide +kernel) (da_cons (de_var 1) (da_one (de_ty (by rfl) (T.free 37) (by decide +kernel))))))) (dss_one (ds_ret (p := true) (de_var 1))) (dss_nil))
    (dss_cons (ds_set (p := false) 2 sc_l_changed.nd (dc_m ((ok_l_take T).mono (n := 3)) hr hgd (dak_cons (k := .v) (de_var 0) (dak_one (k := .v) (de_add (de_callB ca_len (by rfl) (T.free 29) (by decide +kernel) (da_one (de_var 1))) (de_int))))))
    (dss_cons (ds_set (p := false) 3 sc_l_changed.nd (dc_m ((ok_l_take T).mono (n := 3)) hr hgd (dak_cons (k := .v) (de_var 0) (dak_one (k := .v) (de_int)))))
    (dss_cons (ds_if (p := true) (dt_cmp (od_eqA (hu_ hr)) (de_var 3) (de_int)) (dss_one (ds_ret (p := true) (de_add (de_sl (de_var 1) (do_none) (do_some (de_var 2))) (de_sl (de_var 1) (do_some (de_add (de_var 2) (de_int))) (do_none))))) (dss_nil))
    (dss_cons (ds_if (p := true) (dt_cmp (od_eqA (hu_ hr)) (de_var 3) (de_int)) (dss_one (ds_ret (p := true) (de_add (de_add (de_sl (de_var 1) (do_none) (do_some (de_var 2))) (de_sl (de_var 1) (do_some (de_var 2)) (do_some (de_add (de_var 2) (de_int))))) (de_sl (de_var 1) (do_some (de_var 2)) (do_none))))) (dss_nil))
    (dss_cons (ds_if (p := true) (dt_cmp (od_eqA (hu_ hr)) (de_var 3) (de_int)) (dss_cons (ds_set (p := true) 4 sc_l_changed.nd (de_add (de_sl (de_var 1) (do_some (de_add (de_var 2) (de_int))) (do_some (de_add (de_var 2) (de_int)))) (de_sl (de_var 1) (do_some (de_var 2)) (do_some (de_add (de_var 2) (de_int))))))
    (dss_one (ds_ret (p := true) (de_add (de_add (de_sl (de_var 1) (do_none) (do_some (de_var 2))) (de_var 4)) (de_sl (de_var 1) (do_some (de_add (de_var 2) (de_int))) (do_none)))))) (dss_nil))
    (dss_cons (ds_if (p := true) (dt_cmp (od_eqA (hu_ hr)) (de_var 3) (de_int)) (dss_one (ds_ret (p := false) (de_add (de_add (de_sl (de_var 1) (do_none) (do_some (de_var 2))) (de_tupN (an_cons (dc_m ((ok_l_one_changed T TB)) hr hgd (dak_cons (k := .v) (de_var 0) (dak_one (k := .v) (de_int)))) an_nil))) (de_sl (de_var 1) (do_some (de_var 2)) (do_none))))) (dss_nil))
    (dss_cons (ds_if (p := true) (dt_cmp (od_eqA (hu_ hr)) (de_var 3) (de_int)) (dss_cons (ds_set (p := true) 5 sc_l_changed.nd (de_lstN (an_cons ((df_list rfl (de_var 1) (by rfl) (T.free 30)).de) (an_cons (de_tupN (an_cons (de_var 1) an_nil)) (an_cons (de_lstN (an_cons (de_var 1) an_nil)) an_nil)))))
    (dss_one (ds_ret (p := false) (dc_m ((ok_l_pick T).mono (n := 3)) hr hgd (dak_cons (k := .v) (de_var 0) (dak_one (k := .v) (de_add (de_var 5) (de_lstN (an_cons (de_non) (an_cons (de_int) (an_cons (de_str) (an_cons (de_dic0) (an_cons (de_dispV (dps_consI (de_int) (dps_nil))) (an_cons (de_bl) an_nil)))))))))))))) (dss_nil))
    (dss_cons (ds_if (p := true) (dt_cmp (od_eqA (hu_ hr)) (de_var 2) (de_callB ca_len (by rfl) (T.free 29) (by decide +kernel) (da_one (de_var 1)))) (dss_one (ds_ret (p := true) (de_add (de_var 1) (de_sl (de_var 1) (do_none) (do_some (de_int)))))) (dss_nil))
    (dss_one (ds_ret (p := false) (de_add (de_add (de_sl (de_var 1) (do_none) (do_some (de_var 2))) (de_tupN (an_cons (dc_m ((ok_l_one_changed T TB)) hr hgd (dak_cons (k := .v) (de_var 0) (dak_one (k := .v) (de_ix (hu_ hr) (de_var 1) (de_var 2))))) an_nil))) (de_sl (de_var 1) (do_some (de_add (de_var 2) (de_int))) (do_none))))))))))))))
    (hfs := h_l_changed)
abbrev st_l_thing : Stmt := topS 48
abbrev nm_l_thing : List PySem.Str := ["_law_state", "_law_kind"]
theorem sc_l_thing : FnScope nm_l_thing ["_law_state", "_law_kind"] (defScope st_l_thing) := ⟨rfl, rfl, rfl, by decide +kernel, rfl, by decide +kernel, by decide +kernel⟩
theorem ok_l_thing (T : WorC fa fn ts cs w K mg) : Def P w K mg base 3 "_law_thing" ["_law_state", "_law_kind"] [.v, .v] (fs_l_thing K) :=
  T.def_ 5 (g := g_l_thing K) sc_l_thing (hbd := fun _ _ _ _ _ _ us hl => match us, hl with | [_, _], _ => rfl) (hmo := mo_l_thing)
    (hbody := fun f cdv A outer s H E hr hgd => dss_cons (ds_if (p := true) (dt_cmp (od_ltA (hu_ (n := 0) hr)) (de_var 1) (de_int)) (dss_one (ds_ret (p := false) (dc_m ((ok_l_take T).mono (n := 2)) hr hgd (dak_cons (k := .v) (de_var 0) (dak_one (k := .v) (de_ix (hu_ hr) (de_lstN (an_cons (de_int) (an_cons (de_int) an_nil))) (de_var 1))))))) (dss_nil))
    (dss_cons (ds_if (p := true) (dt_cmp (od_eqA (hu_ hr)) (de_var 1) (de_int)) (dss_one (ds_ret (p := false) (de_add (de_op od_mulI (de_int) (dc_m ((ok_l_take T).mono (n := 2)) hr hgd (dak_cons (k := .v) (de_var 0) (dak_one (k := .v) (de_int))))) (de_int)))) (dss_nil))
    (dss_cons (ds_if (p := true) (dt_cmp (od_eqA (hu_ hr)) (de_var 1) (de_int)) (dss_one (ds_ret (p := false) (dc_m ((ok_l_take T).mono (n := 2)) hr hgd (dak_cons (k := .v) (de_var 0) (dak_one (k := .v) (de_int)))))) (dss_nil))
    (dss_one (ds_ret (p := false) (dc_m ((ok_l_pick T)) hr hgd (dak_cons (k := .v) (de_var 0) (dak_one (k := .v) (de_lstN (an_cons (de_int) (an_cons (de_int) (an_cons (de_int) (an_cons (de_int) (an_cons (de_int) (an_cons (de_int) an_nil)))))))))))))))
    (hfs := h_l_thing)
abbrev st_l_size : Stmt := topS 49
abbrev nm_l_size : List PySem.Str := ["_law_state", "_law_bound", "_law_some"]
theorem sc_l_size : FnScope nm_l_size ["_law_state", "_law_bound"] (defScope st_l_size) := ⟨rfl, rfl, rfl, by decide +kernel, rfl, by decide +kernel, by decide +kernel⟩
theorem ok_l_size (T : WorC fa fn ts cs w K mg) : Def P w K mg base 3 "_law_size" ["_law_state", "_law_bound"] [.v, .v] (fs_l_size K) :=
  T.def_ 6 (g := g_l_size K) sc_l_size (hbd := fun _ _ _ _ _ _ us hl => match us, hl with | [_, _], _ => rfl) (hmo := mo_l_size)
    (hbody := fun f cdv A outer s H E hr hgd => dss_cons (ds_set (p := false) 2 sc_l_size.nd (de_lstN (an_cons (dc_m ((ok_l_take T).mono (n := 2)) hr hgd (dak_cons (k := .v) (de_var 0) (dak_one (k := .v) (de_int)))) (an_cons (dc_m ((ok_l_take T).mono (n := 2)) hr hgd (dak_cons (k := .v) (de_var 0) (dak_one (k := .v) (de_int)))) (an_cons (dc_m ((ok_l_take T).mono (n := 2)) hr hgd (dak_cons (k := .v) (de_var 0) (dak_one (k := .v) (de_add (de_var 1) (de_int))))) (an_cons (de_int) (an_cons (de_var 1) (an_cons (de_int) an_nil))))))))
    (dss_one (ds_ret (p := false) (de_op od_mod (dc_m ((ok_l_pick T)) hr hgd (dak_cons (k := .v) (de_var 0) (dak_one (k := .v) (de_var 2)))) (de_add (de_var 1) (de_int))))))
    (hfs := h_l_size)
abbrev st_l_row_2 : Stmt := topS 50
abbrev nm_l_row_2 : List PySem.Str := ["_law_state", "_law_bound", "_law_kind", "_law_k"]
theorem sc_l_row_2 : FnScope nm_l_row_2 ["_law_state", "_law_bound"] (defScope st_l_row_2) := ⟨rfl, rfl, rfl, by decide +kernel, rfl, by decide +kernel, by decide +kernel⟩
theorem ok_l_row_2 (T : WorC fa fn ts cs w K mg) : Def P w K mg base 4 "_law_row" ["_law_state", "_law_bound"] [.v, .v] (fs_l_row_2 K) :=
  T.def_ 7 (g := g_l_row_2 K) sc_l_row_2 (hbd := fun _ _ _ _ _ _ us hl => match us, hl with | [_, _], _ => rfl) (hmo := mo_l_row_2)
    (hbody := fun f cdv A outer s H E hr hgd => dss_cons (ds_set (p := false) 2 sc_l_row_2.nd (dc_m ((ok_l_take T).mono (n := 3)) hr hgd (dak_cons (k := .v) (de_var 0) (dak_one (k := .v) (de_int)))))
    (dss_one (ds_ret (p := false) ((df_comp (own := [("_law_k", 3)]) rfl sc_l_row_2.nd (di_range1 (by rfl) (T.free 33) (da_one (dc_m ((ok_l_size T)) hr hgd (dak_cons (k := .v) (de_var 0) (dak_one (k := .v) (de_var 1)))))) (blkOk_by (N := nm_l_row_2) (sc := defScope st_l_row_2) (by decide +kernel)) (fun _ _ _ _ _ => dt_name 3 sc_l_row_2.nd) (fun _ _ _ _ _ => dtts_nil) (fun _ _ _ _ _ => dc_m ((ok_l_thing T)) hr hgd (dak_cons (k := .v) (de_var 0) (dak_one (k := .v) (de_var 2))))).de))))
    (hfs := h_l_row_2)
abbrev st_l_lies_3 : Stmt := topS 52
abbrev nm_l_lies_3 : List PySem.Str := ["_law_thing_here", "_law_one"]
theorem sc_l_lies_3 : FnScope nm_l_lies_3 ["_law_thing_here"] (defScope st_l_lies_3) := ⟨rfl, rfl, rfl, by decide +kernel, rfl, by decide +kernel, by decide +kernel⟩
theorem ok_l_lies_3 (T : WorC fa fn ts cs w K mg) : Def P w K mg base 1 "_law_lies" ["_law_thing_here"] [.v] (fs_l_lies_3 K) :=
  T.def_ 8 (g := g_l_lies_3 K) sc_l_lies_3 (hbd := fun _ _ _ _ _ _ us hl => match us, hl with | [_], _ => rfl) (hmo := mo_l_lies_3)
    (hbody := fun f cdv A outer s H E hr hgd => dss_cons (ds_if (p := true) ((dw_or (dt_not (dt_tru (de_callB ca_isi (by rfl) (T.free 28) (by decide +kernel) (da_cons (de_var 0) (da_one (de_ty (by rfl) (T.free 37) (by decide +kernel))))))) (dw_or1 (dt_cmp od_gt (de_callB ca_len (by rfl) (T.free 29) (by decide +kernel) (da_one (de_var 0))) (de_int)))).dt) (dss_one (ds_ret (p := true) (de_bl))) (dss_nil))
    (dss_cons (ds_for (p := true) (passes_of rfl) rfl (di_seq (de_var 0)) (dt_name 1 sc_l_lies_3.nd) (dss_one (ds_if (p := true) ((dw_or (dt_not (dt_tru (de_callB ca_isi (by rfl) (T.free 28) (by decide +kernel) (da_cons (de_var 1) (da_one (de_ty (by rfl) (T.free 27) (by decide +kernel))))))) (dw_or (dt_tru (de_callB ca_isi (by rfl) (T.free 28) (by decide +kernel) (da_cons (de_var 1) (da_one (de_ty (by rfl) (T.free 26) (by decide +kernel)))))) (dw_or (dt_cmp (od_ltA (hu_ (n := 0) hr)) (de_var 1) (de_int)) (dw_or1 (dt_cmp od_gt (de_var 1) (de_int)))))).dt) (dss_one (ds_ret (p := true) (de_bl))) (dss_nil))))
    (dss_one (ds_ret (p := true) (de_bl)))))
    (hfs := h_l_lies_3)
abbrev st_p_need_sort : Stmt := topS 21
abbrev nm_p_need_sort : List PySem.Str := ["sort"]
theorem sc_p_need_sort : FnScope nm_p_need_sort ["sort"] (defScope st_p_need_sort) := ⟨rfl, rfl, rfl, by decide +kernel, rfl, by decide +kernel, by decide +kernel⟩
theorem ok_p_need_sort (T : WorC fa fn ts cs w K mg) : Def P w K mg base 1 "need_sort" ["sort"] [.v] (fs_p_need_sort K) :=
  T.def_ 9 (g := g_p_need_sort K) sc_p_need_sort (hbd := fun _ _ _ _ _ _ us hl => match us, hl with | [_], _ => rfl) (hmo := mo_p_need_sort)
    (hbody := fun f cdv A outer s H E hr hgd => dss_one (ds_if (p := true) ((dw_or (dt_not (dt_tru (de_callB ca_isi (by rfl) (T.free 28) (by decide +kernel) (da_cons (de_var 0) (da_one (de_ty (by rfl) (T.free 36) (by decide +kernel))))))) (dw_or1 (dt_cmp (od_notinTab (T.tb 59 3)) (de_var 0) (dg_tab (T.tb 59 3))))).dt) (dss_one (ds_raise (T.exc 60))) (dss_nil)))
    (hfs := h_p_need_sort)
abbrev st_p_are_unlike : Stmt := topS 24
abbrev nm_p_are_unlike : List PySem.Str := ["things"]
theorem sc_p_are_unlike : FnScope nm_p_are_unlike ["things"] (defScope st_p_are_unlike) := ⟨rfl, rfl, rfl, by decide +kernel, rfl, by decide +kernel, by decide +kernel⟩
theorem ok_p_are_unlike (T : WorC fa fn ts cs w K mg) : Def P w K mg base 1 "are_unlike" ["things"] [.v] (fs_p_are_unlike K) :=
  T.def_ 10 (g := g_p_are_unlike K) sc_p_are_unlike (hbd := fun _ _ _ _ _ _ us hl => match us, hl with | [_], _ => rfl) (hmo := mo_p_are_unlike)
    (hbody := fun f cdv A outer s H E hr hgd => dss_one (ds_ret (p := true) (de_cmp (od_eqA (hu_ hr)) (de_lenSet rfl (by rfl) (T.free 29) (by rfl) (T.free 35) (de_var 0)) (de_callB ca_len (by rfl) (T.free 29) (by decide +kernel) (da_one (de_var 0))))))
    (hfs := h_p_are_unlike)
abbrev st_p_is_thing : Stmt := topS 22
abbrev nm_p_is_thing : List PySem.Str := ["thing"]
theorem sc_p_is_thing : FnScope nm_p_is_thing ["thing"] (defScope st_p_is_thing) := ⟨rfl, rfl, rfl, by decide +kernel, rfl, by decide +kernel, by decide +kernel⟩
theorem ok_p_is_thing (T : WorC fa fn ts cs w K mg) : Def P w K mg base 1 "is_thing" ["thing"] [.v] (fs_p_is_thing K) :=
  T.def_ 11 (g := g_p_is_thing K) sc_p_is_thing (hbd := fun _ _ _ _ _ _ us hl => match us, hl with | [_], _ => rfl) (hmo := mo_p_is_thing)
    (hbody := fun f cdv A outer s H E hr hgd => dss_one (ds_ret (p := true) (de_and (de_callB ca_isi (by rfl) (T.free 28) (by decide +kernel) (da_cons (de_var 0) (da_one (de_ty (by rfl) (T.free 27) (by decide +kernel))))) (de_and (de_not (de_callB ca_isi (by rfl) (T.free 28) (by decide +kernel) (da_cons (de_var 0) (da_one (de_ty (by rfl) (T.free 26) (by decide +kernel)))))) (de_one (de_chain od_le od_le (de_int) (de_var 0) (dg_int (T.int 39))))))))
    (hfs := h_p_is_thing)
abbrev st_p_is_pair : Stmt := topS 23
abbrev nm_p_is_pair : List PySem.Str := ["thing"]
theorem sc_p_is_pair : FnScope nm_p_is_pair ["thing"] (defScope st_p_is_pair) := ⟨rfl, rfl, rfl, by decide +kernel, rfl, by decide +kernel, by decide +kernel⟩
theorem ok_p_is_pair (T : WorC fa fn ts cs w K mg) : Def P w K mg base 2 "is_pair" ["thing"] [.v] (fs_p_is_pair K) :=
  T.def_ 12 (g := g_p_is_pair K) sc_p_is_pair (hbd := fun _ _ _ _ _ _ us hl => match us, hl with | [_], _ => rfl) (hmo := mo_p_is_pair)
    (hbody := fun f cdv A outer s H E hr hgd => dss_one (ds_ret (p := true) (de_and (de_callB ca_isi (by rfl) (T.free 28) (by decide +kernel) (da_cons (de_var 0) (da_one (de_ty (by rfl) (T.free 37) (by decide +kernel))))) (de_and (de_cmp (od_eqA (hu_ hr)) (de_callB ca_len (by rfl) (T.free 29) (by decide +kernel) (da_one (de_var 0))) (de_int)) (de_and (dc_p ((ok_p_is_thing T)) hr hgd (dak_one (k := .v) (de_ix (hu_ hr) (de_var 0) (de_int)))) (de_one (dc_p ((ok_p_is_thing T)) hr hgd (dak_one (k := .v) (de_ix (hu_ hr) (de_var 0) (de_int))))))))))
    (hfs := h_p_is_pair)
abbrev st_p_is_things : Stmt := topS 25
abbrev nm_p_is_things : List PySem.Str := ["sort", "thing", "one"]
theorem sc_p_is_things : FnScope nm_p_is_things ["sort", "thing"] (defScope st_p_is_things) := ⟨rfl, rfl, rfl, by decide +kernel, rfl, by decide +kernel, by decide +kernel⟩
theorem ok_p_is_things (T : WorC fa fn ts cs w K mg) : Def P w K mg base 3 "is_things" ["sort", "thing"] [.v, .v] (fs_p_is_things K) :=
  T.def_ 13 (g := g_p_is_things K) sc_p_is_things (hbd := fun _ _ _ _ _ _ us hl => match us, hl with | [_, _], _ => rfl) (hmo := mo_p_is_things)
    (hbody := fun f cdv A outer s H E hr hgd => dss_cons (ds_expr (p := true) (dc_p ((ok_p_need_sort T).mono (n := 2)) hr hgd (dak_one (k := .v) (de_var 0))))
    (dss_cons (ds_if (p := true) ((dw_or (dt_not (dt_tru (de_callB ca_isi (by rfl) (T.free 28) (by decide +kernel) (da_cons (de_var 1) (da_one (de_ty (by rfl) (T.free 37) (by decide +kernel))))))) (dw_or1 (dt_cmp od_gt (de_callB ca_len (by rfl) (T.free 29) (by decide +kernel) (da_one (de_var 1))) (dg_int (T.int 38))))).dt) (dss_one (ds_ret (p := true) (de_bl))) (dss_nil))
    (dss_cons (ds_if (p := true) (dt_cmp (od_eqA (hu_ hr)) (de_var 0) (de_str)) (dss_one (ds_ret (p := true) (de_and (de_callB (ca_all (cr_all rfl)) (by rfl) (T.free 25) (by decide +kernel) (da_one ((df_comp (own := [("one", 2)]) rfl sc_p_is_things.nd (di_seq (de_var 1)) (blkOk_by (N := nm_p_is_things) (sc := defScope st_p_is_things) (by decide +kernel)) (fun _ _ _ _ _ => dt_name 2 sc_p_is_things.nd) (fun _ _ _ _ _ => dtts_nil) (fun _ _ _ _ _ => dc_p ((ok_p_is_pair T)) hr hgd (dak_one (k := .v) (de_var 2)))).de))) (de_one (dc_p ((ok_p_are_unlike T).mono (n := 2)) hr hgd (dak_one (k := .v) ((df_comp (own := [("one", 2)]) rfl sc_p_is_things.nd (di_seq (de_var 1)) (blkOk_by (N := nm_p_is_things) (sc := defScope st_p_is_things) (by decide +kernel)) (fun _ _ _ _ _ => dt_name 2 sc_p_is_things.nd) (fun _ _ _ _ _ => dtts_nil) (fun _ _ _ _ _ => de_ix (hu_ hr) (de_var 2) (de_int))).de))))))) (dss_nil))
    (dss_cons (ds_if (p := true) (dt_not (dt_tru (de_callB (ca_all (cr_all rfl)) (by rfl) (T.free 25) (by decide +kernel) (da_one ((df_comp (own := [("one", 2)]) rfl sc_p_is_things.nd (di_seq (de_var 1)) (blkOk_by (N := nm_p_is_things) (sc := defScope st_p_is_things) (by decide +kernel)) (fun _ _ _ _ _ => dt_name 2 sc_p_is_things.nd) (fun _ _ _ _ _ => dtts_nil) (fun _ _ _ _ _ => dc_p ((ok_p_is_thing T).mono (n := 2)) hr hgd (dak_one (k := .v) (de_var 2)))).de))))) (dss_one (ds_ret (p := true) (de_bl))) (dss_nil))
    (dss_one (ds_ret (p := true) (de_or (de_cmp (od_eqA (hu_ hr)) (de_var 0) (de_str)) (de_one (dc_p ((ok_p_are_unlike T).mono (n := 2)) hr hgd (dak_one (k := .v) (de_var 1)))))))))))
    (hfs := h_p_is_things)
abbrev st_l_word_4 : Stmt := topS 51
abbrev nm_l_word_4 : List PySem.Str := ["_law_work", "_law_error", "e", "_law_marks", "_law_others"]
theorem sc_l_word_4 : FnScope nm_l_word_4 ["_law_work"] (defScope st_l_word_4) := ⟨rfl, rfl, rfl, by decide +kernel, rfl, by decide +kernel, by decide +kernel⟩
theorem ok_l_word_4 (T : WorC fa fn ts cs w K mg) : DefL P w K mg base 1 "_law_word" "_law_work" [] (fs_l_word_4 K) :=
  T.defL_ 14 (a := "_law_work") (ps := []) (g := g_l_word_4 K) sc_l_word_4 (hbd := fun _ _ _ _ _ _ us hl => match us, hl with | [_], _ => rfl) (hmo := mo_l_word_4)
    (hbody := fun f cdv A outer s H E lm sp hr hgd hmt hp act => dss_cons (ds_set (p := true) 1 sc_l_word_4.nd (de_non))
    (dss_cons (ds_tryE 1 2 rfl rfl rfl sc_l_word_4.nd ⟨by rfl, by decide, .inl (T.glo 64)⟩ (tb_cons (T.exm 65) (tb_cons (T.exm 66) (tb_cons (T.exm 67) (tb_cons (T.exm 68) (tb_cons (T.exm 69) (tb_cons (T.exm 70) (tb_cons (T.exm 71) (tb_cons (T.exm 72) (tb_cons (T.exm 73) (tb_cons (T.exm 74) (tb_cons (T.exm 75) (tb_cons (T.exm 76) tb_nil)))))))))))) (tx_act 0 hmt hp act))
    (dss_cons (ds_if (p := true) (dt_cmp od_isN (de_var 1) (de_non)) (dss_one (ds_ret (p := true) (de_str))) (dss_nil))
    (dss_cons (ds_set (p := true) 3 sc_l_word_4.nd (de_lstN (an_cons (de_callB (ca_isX (tbx_cons (T.exq 5) (by rfl) (T.isq 6 (x := "NoChoice") (c := fun K => .ref (He.ga K "NoThings")) (b := false)) (tbx_cons (T.exq 7) (by rfl) (T.isq 8 (x := "NoCosts") (c := fun K => .ref (He.ga K "NoThings")) (b := false)) (tbx_cons (T.exq 9) (by rfl) (T.isq 10 (x := "NoDeed") (c := fun K => .ref (He.ga K "NoThings")) (b := false)) (tbx_cons (T.exq 11) (by rfl) (T.isq 12 (x := "NoKind") (c := fun K => .ref (He.ga K "NoThings")) (b := false)) (tbx_cons (T.exq 13) (by rfl) (T.isq 14 (x := "NoProgram") (c := fun K => .ref (He.ga K "NoThings")) (b := false)) (tbx_cons (T.exq 15) (by rfl) (T.isq 16 (x := "NoRow") (c := fun K => .ref (He.ga K "NoThings")) (b := false)) (tbx_cons (T.exq 17) (by rfl) (T.isq 18 (x := "NoRun") (c := fun K => .ref (He.ga K "NoThings")) (b := false)) (tbx_cons (T.exq 19) (by rfl) (T.isq 20 (x := "NoShelf") (c := fun K => .ref (He.ga K "NoThings")) (b := false)) (tbx_cons (T.exq 21) (by rfl) (T.isq 22 (x := "NoSort") (c := fun K => .ref (He.ga K "NoThings")) (b := false)) (tbx_cons (T.exq 23) (by rfl) (T.isq 24 (x := "NoText") (c := fun K => .ref (He.ga K "NoThings")) (b := false)) (tbx_cons (T.exq 25) (by rfl) (T.isq 26 (x := "NoThings") (c := fun K => .ref (He.ga K "NoThings")) (b := true)) (tbx_cons (T.exq 27) (by rfl) (T.isq 28 (x := "TooMany") (c := fun K => .ref (He.ga K "NoThings")) (b := false)) tbx_nil))))))))))))) (by rfl) (T.free 28) (by decide +kernel) (da_cons (de_var 1) (da_one (dg_cls (T.glo 62))))) (an_cons (de_callB (ca_isX (tbx_cons (T.exq 5) (by rfl) (T.isq 29 (x := "NoChoice") (c := fun K => .ref (He.ga K "NoDeed")) (b := false)) (tbx_cons (T.exq 7) (by rfl) (T.isq 30 (x := "NoCosts") (c := fun K => .ref (He.ga K "NoDeed")) (b := false)) (tbx_cons (T.exq 9) (by rfl) (T.isq 31 (x := "NoDeed") (c := fun K => .ref (He.ga K "NoDeed")) (b := true)) (tbx_cons (T.exq 11) (by rfl) (T.isq 32 (x := "NoKind") (c := fun K => .ref (He.ga K "NoDeed")) (b := false)) (tbx_cons (T.exq 13) (by rfl) (T.isq 33 (x := "NoProgram") (c := fun K => .ref (He.ga K "NoDeed")) (b := false)) (tbx_cons (T.exq 15) (by rfl) (T.isq 34 (x := "NoRow") (c := fun K => .ref (He.ga K "NoDeed")) (b := false)) (tbx_cons (T.exq 17) (by rfl) (T.isq 35 (x := "NoRun") (c := fun K => .ref (He.ga K "NoDeed")) (b := false)) (tbx_cons (T.exq 19) (by rfl) (T.isq 36 (x := "NoShelf") (c := fun K => .ref (He.ga K "NoDeed")) (b := false)) (tbx_cons (T.exq 21) (by rfl) (T.isq 37 (x := "NoSort") (c := fun K => .ref (He.ga K "NoDeed")) (b := false)) (tbx_cons (T.exq 23) (by rfl) (T.isq 38 (x := "NoText") (c := fun K => .ref (He.ga K "NoDeed")) (b := false)) (tbx_cons (T.exq 25) (by rfl) (T.isq 39 (x := "NoThings") (c := fun K => .ref (He.ga K "NoDeed")) (b := false)) (tbx_cons (T.exq 27) (by rfl) (T.isq 40 (x := "TooMany") (c := fun K => .ref (He.ga K "NoDeed")) (b := false)) tbx_nil))))))))))))) (by rfl) (T.free 28) (by decide +kernel) (da_cons (de_var 1) (da_one (dg_cls (T.glo 77))))) (an_cons (de_callB (ca_isX (tbx_cons (T.exq 5) (by rfl) (T.isq 41 (x := "NoChoice") (c := fun K => .ref (He.ga K "TooMany")) (b := false)) (tbx_cons (T.exq 7) (by rfl) (T.isq 42 (x := "NoCosts") (c := fun K => .ref (He.ga K "TooMany")) (b := false)) (tbx_cons (T.exq 9) (by rfl) (T.isq 43 (x := "NoDeed") (c := fun K => .ref (He.ga K "TooMany")) (b := false)) (tbx_cons (T.exq 11) (by rfl) (T.isq 44 (x := "NoKind") (c := fun K => .ref (He.ga K "TooMany")) (b := false)) (tbx_cons (T.exq 13) (by rfl) (T.isq 45 (x := "NoProgram") (c := fun K => .ref (He.ga K "TooMany")) (b := false)) (tbx_cons (T.exq 15) (by rfl) (T.isq 46 (x := "NoRow") (c := fun K => .ref (He.ga K "TooMany")) (b := false)) (tbx_cons (T.exq 17) (by rfl) (T.isq 47 (x := "NoRun") (c := fun K => .ref (He.ga K "TooMany")) (b := false)) (tbx_cons (T.exq 19) (by rfl) (T.isq 48 (x := "NoShelf") (c := fun K => .ref (He.ga K "TooMany")) (b := false)) (tbx_cons (T.exq 21) (by rfl) (T.isq 49 (x := "NoSort") (c := fun K => .ref (He.ga K "TooMany")) (b := false)) (tbx_cons (T.exq 23) (by rfl) (T.isq 50 (x := "NoText") (c := fun K => .ref (He.ga K "TooMany")) (b := false)) (tbx_cons (T.exq 25) (by rfl) (T.isq 51 (x := "NoThings") (c := fun K => .ref (He.ga K "TooMany")) (b := false)) (tbx_cons (T.exq 27) (by rfl) (T.isq 52 (x := "TooMany") (c := fun K => .ref (He.ga K "TooMany")) (b := true)) tbx_nil))))))))))))) (by rfl) (T.free 28) (by decide +kernel) (da_cons (de_var 1) (da_one (dg_cls (T.glo 78))))) an_nil)))))
    (dss_cons (ds_own (p := true) 4 sc_l_word_4.nd (df_lst (an_cons (de_callB (ca_isX (tbx_cons (T.exq 5) (by rfl) (T.isq 53 (x := "NoChoice") (c := fun K => .tup [.ref (He.ga K "NoSort"), .ref (He.ga K "NoKind"), .ref (He.ga K "NoProgram")]) (b := false)) (tbx_cons (T.exq 7) (by rfl) (T.isq 54 (x := "NoCosts") (c := fun K => .tup [.ref (He.ga K "NoSort"), .ref (He.ga K "NoKind"), .ref (He.ga K "NoProgram")]) (b := false)) (tbx_cons (T.exq 9) (by rfl) (T.isq 55 (x := "NoDeed") (c := fun K => .tup [.ref (He.ga K "NoSort"), .ref (He.ga K "NoKind"), .ref (He.ga K "NoProgram")]) (b := false)) (tbx_cons (T.exq 11) (by rfl) (T.isq 56 (x := "NoKind") (c := fun K => .tup [.ref (He.ga K "NoSort"), .ref (He.ga K "NoKind"), .ref (He.ga K "NoProgram")]) (b := true)) (tbx_cons (T.exq 13) (by rfl) (T.isq 57 (x := "NoProgram") (c := fun K => .tup [.ref (He.ga K "NoSort"), .ref (He.ga K "NoKind"), .ref (He.ga K "NoProgram")]) (b := true)) (tbx_cons (T.exq 15) (by rfl) (T.isq 58 (x := "NoRow") (c := fun K => .tup [.ref (He.ga K "NoSort"), .ref (He.ga K "NoKind"), .ref (He.ga K "NoProgram")]) (b := false)) (tbx_cons (T.exq 17) (by rfl) (T.isq 59 (x := "NoRun") (c := fun K => .tup [.ref (He.ga K "NoSort"), .ref (He.ga K "NoKind"), .ref (He.ga K "NoProgram")]) (b := false)) (tbx_cons (T.exq 19) (by rfl) (T.isq 60 (x := "NoShelf") (c := fun K => .tup [.ref (He.ga K "NoSort"), .ref (He.ga K "NoKind"), .ref (He.ga K "NoProgram")]) (b := false)) (tbx_cons (T.exq 21) (by rfl) (T.isq 61 (x := "NoSort") (c := fun K => .tup [.ref (He.ga K "NoSort"), .ref (He.ga K "NoKind"), .ref (He.ga K "NoProgram")]) (b := true)) (tbx_cons (T.exq 23) (by rfl) (T.isq 62 (x := "NoText") (c := fun K => .tup [.ref (He.ga K "NoSort"), .ref (He.ga K "NoKind"), .ref (He.ga K "NoProgram")]) (b := false)) (tbx_cons (T.exq 25) (by rfl) (T.isq 63 (x := "NoThings") (c := fun K => .tup [.ref (He.ga K "NoSort"), .ref (He.ga K "NoKind"), .ref (He.ga K "NoProgram")]) (b := false)) (tbx_cons (T.exq 27) (by rfl) (T.isq 64 (x := "TooMany") (c := fun K => .tup [.ref (He.ga K "NoSort"), .ref (He.ga K "NoKind"), .ref (He.ga K "NoProgram")]) (b := false)) tbx_nil))))))))))))) (by rfl) (T.free 28) (by decide +kernel) (da_cons (de_var 1) (da_one (de_tupN (an_cons (dg_cls (T.glo 60)) (an_cons (dg_cls (T.glo 79)) (an_cons (dg_cls (T.glo 80)) an_nil))))))) an_nil)))
    (dss_cons (ds_app (p := true) 4 (de_callB (ca_isX (tbx_cons (T.exq 5) (by rfl) (T.isq 65 (x := "NoChoice") (c := fun K => .tup [.ref (He.ga K "NoText"), .ref (He.ga K "NoRun"), .ref (He.ga K "NoCosts")]) (b := false)) (tbx_cons (T.exq 7) (by rfl) (T.isq 66 (x := "NoCosts") (c := fun K => .tup [.ref (He.ga K "NoText"), .ref (He.ga K "NoRun"), .ref (He.ga K "NoCosts")]) (b := true)) (tbx_cons (T.exq 9) (by rfl) (T.isq 67 (x := "NoDeed") (c := fun K => .tup [.ref (He.ga K "NoText"), .ref (He.ga K "NoRun"), .ref (He.ga K "NoCosts")]) (b := false)) (tbx_cons (T.exq 11) (by rfl) (T.isq 68 (x := "NoKind") (c := fun K => .tup [.ref (He.ga K "NoText"), .ref (He.ga K "NoRun"), .ref (He.ga K "NoCosts")]) (b := false)) (tbx_cons (T.exq 13) (by rfl) (T.isq 69 (x := "NoProgram") (c := fun K => .tup [.ref (He.ga K "NoText"), .ref (He.ga K "NoRun"), .ref (He.ga K "NoCosts")]) (b := false)) (tbx_cons (T.exq 15) (by rfl) (T.isq 70 (x := "NoRow") (c := fun K => .tup [.ref (He.ga K "NoText"), .ref (He.ga K "NoRun"), .ref (He.ga K "NoCosts")]) (b := false)) (tbx_cons (T.exq 17) (by rfl) (T.isq 71 (x := "NoRun") (c := fun K => .tup [.ref (He.ga K "NoText"), .ref (He.ga K "NoRun"), .ref (He.ga K "NoCosts")]) (b := true)) (tbx_cons (T.exq 19) (by rfl) (T.isq 72 (x := "NoShelf") (c := fun K => .tup [.ref (He.ga K "NoText"), .ref (He.ga K "NoRun"), .ref (He.ga K "NoCosts")]) (b := false)) (tbx_cons (T.exq 21) (by rfl) (T.isq 73 (x := "NoSort") (c := fun K => .tup [.ref (He.ga K "NoText"), .ref (He.ga K "NoRun"), .ref (He.ga K "NoCosts")]) (b := false)) (tbx_cons (T.exq 23) (by rfl) (T.isq 74 (x := "NoText") (c := fun K => .tup [.ref (He.ga K "NoText"), .ref (He.ga K "NoRun"), .ref (He.ga K "NoCosts")]) (b := true)) (tbx_cons (T.exq 25) (by rfl) (T.isq 75 (x := "NoThings") (c := fun K => .tup [.ref (He.ga K "NoText"), .ref (He.ga K "NoRun"), .ref (He.ga K "NoCosts")]) (b := false)) (tbx_cons (T.exq 27) (by rfl) (T.isq 76 (x := "TooMany") (c := fun K => .tup [.ref (He.ga K "NoText"), .ref (He.ga K "NoRun"), .ref (He.ga K "NoCosts")]) (b := false)) tbx_nil))))))))))))) (by rfl) (T.free 28) (by decide +kernel) (da_cons (de_var 1) (da_one (de_tupN (an_cons (dg_cls (T.glo 81)) (an_cons (dg_cls (T.glo 82)) (an_cons (dg_cls (T.glo 83)) an_nil))))))))
    (dss_cons (ds_app (p := true) 4 (de_callB (ca_isX (tbx_cons (T.exq 5) (by rfl) (T.isq 77 (x := "NoChoice") (c := fun K => .tup [.ref (He.ga K "NoChoice"), .ref (He.ga K "NoShelf"), .ref (He.ga K "NoRow")]) (b := true)) (tbx_cons (T.exq 7) (by rfl) (T.isq 78 (x := "NoCosts") (c := fun K => .tup [.ref (He.ga K "NoChoice"), .ref (He.ga K "NoShelf"), .ref (He.ga K "NoRow")]) (b := false)) (tbx_cons (T.exq 9) (by rfl) (T.isq 79 (x := "NoDeed") (c := fun K => .tup [.ref (He.ga K "NoChoice"), .ref (He.ga K "NoShelf"), .ref (He.ga K "NoRow")]) (b := false)) (tbx_cons (T.exq 11) (by rfl) (T.isq 80 (x := "NoKind") (c := fun K => .tup [.ref (He.ga K "NoChoice"), .ref (He.ga K "NoShelf"), .ref (He.ga K "NoRow")]) (b := false)) (tbx_cons (T.exq 13) (by rfl) (T.isq 81 (x := "NoProgram") (c := fun K => .tup [.ref (He.ga K "NoChoice"), .ref (He.ga K "NoShelf"), .ref (He.ga K "NoRow")]) (b := false)) (tbx_cons (T.exq 15) (by rfl) (T.isq 82 (x := "NoRow") (c := fun K => .tup [.ref (He.ga K "NoChoice"), .ref (He.ga K "NoShelf"), .ref (He.ga K "NoRow")]) (b := true)) (tbx_cons (T.exq 17) (by rfl) (T.isq 83 (x := "NoRun") (c := fun K => .tup [.ref (He.ga K "NoChoice"), .ref (He.ga K "NoShelf"), .ref (He.ga K "NoRow")]) (b := false)) (tbx_cons (T.exq 19) (by rfl) (T.isq 84 (x := "NoShelf") (c := fun K => .tup [.ref (He.ga K "NoChoice"), .ref (He.ga K "NoShelf"), .ref (He.ga K "NoRow")]) (b := true)) (tbx_cons (T.exq 21) (by rfl) (T.isq 85 (x := "NoSort") (c := fun K => .tup [.ref (He.ga K "NoChoice"), .ref (He.ga K "NoShelf"), .ref (He.ga K "NoRow")]) (b := false)) (tbx_cons (T.exq 23) (by rfl) (T.isq 86 (x := "NoText") (c := fun K => .tup [.ref (He.ga K "NoChoice"), .ref (He.ga K "NoShelf"), .ref (He.ga K "NoRow")]) (b := false)) (tbx_cons (T.exq 25) (by rfl) (T.isq 87 (x := "NoThings") (c := fun K => .tup [.ref (He.ga K "NoChoice"), .ref (He.ga K "NoShelf"), .ref (He.ga K "NoRow")]) (b := false)) (tbx_cons (T.exq 27) (by rfl) (T.isq 88 (x := "TooMany") (c := fun K => .tup [.ref (He.ga K "NoChoice"), .ref (He.ga K "NoShelf"), .ref (He.ga K "NoRow")]) (b := false)) tbx_nil))))))))))))) (by rfl) (T.free 28) (by decide +kernel) (da_cons (de_var 1) (da_one (de_tupN (an_cons (dg_cls (T.glo 84)) (an_cons (dg_cls (T.glo 85)) (an_cons (dg_cls (T.glo 86)) an_nil))))))))
    (dss_frz 4 (dss_cons (ds_if (p := true) ((dw_or (dt_cmp (od_neA (hu_ hr)) (de_count rfl (hu_ hr) (de_var 3) (de_bl)) (de_int)) (dw_or (dt_cmp (od_in (hu_ hr)) (de_bl) (de_var 4)) (dw_or1 (dt_not (dt_tru (de_callB (ca_isX (tbx_cons (T.exq 5) (by rfl) (T.isq 89 (x := "NoChoice") (c := fun K => .ty "ValueError") (b := true)) (tbx_cons (T.exq 7) (by rfl) (T.isq 90 (x := "NoCosts") (c := fun K => .ty "ValueError") (b := true)) (tbx_cons (T.exq 9) (by rfl) (T.isq 91 (x := "NoDeed") (c := fun K => .ty "ValueError") (b := true)) (tbx_cons (T.exq 11) (by rfl) (T.isq 92 (x := "NoKind") (c := fun K => .ty "ValueError") (b := true)) (tbx_cons (T.exq 13) (by rfl) (T.isq 93 (x := "NoProgram") (c := fun K => .ty "ValueError") (b := true)) (tbx_cons (T.exq 15) (by rfl) (T.isq 94 (x := "NoRow") (c := fun K => .ty "ValueError") (b := true)) (tbx_cons (T.exq 17) (by rfl) (T.isq 95 (x := "NoRun") (c := fun K => .ty "ValueError") (b := true)) (tbx_cons (T.exq 19) (by rfl) (T.isq 96 (x := "NoShelf") (c := fun K => .ty "ValueError") (b := true)) (tbx_cons (T.exq 21) (by rfl) (T.isq 97 (x := "NoSort") (c := fun K => .ty "ValueError") (b := true)) (tbx_cons (T.exq 23) (by rfl) (T.isq 98 (x := "NoText") (c := fun K => .ty "ValueError") (b := true)) (tbx_cons (T.exq 25) (by rfl) (T.isq 99 (x := "NoThings") (c := fun K => .ty "ValueError") (b := true)) (tbx_cons (T.exq 27) (by rfl) (T.isq 100 (x := "TooMany") (c := fun K => .ty "ValueError") (b := true)) tbx_nil))))))))))))) (by rfl) (T.free 28) (by decide +kernel) (da_cons (de_var 1) (da_one (de_ty (by rfl) (T.free 23) (by decide +kernel)))))))))).dt) (dss_one (ds_ret (p := true) (de_str))) (dss_nil))
    (dss_one (ds_ret (p := true) (de_ix (hu_ hr) (de_lstN (an_cons (de_str) (an_cons (de_str) (an_cons (de_str) an_nil)))) (de_index rfl (hu_ hr) (de_var 3) (de_bl))))))))))))))
    (hfs := h_l_word_4)
abbrev st_p_need_row : Stmt := topS 29
abbrev nm_p_need_row : List PySem.Str := ["things"]
theorem sc_p_need_row : FnScope nm_p_need_row ["things"] (defScope st_p_need_row) := ⟨rfl, rfl, rfl, by decide +kernel, rfl, by decide +kernel, by decide +kernel⟩
theorem ok_p_need_row (T : WorC fa fn ts cs w K mg) : Def P w K mg base 4 "need_row" ["things"] [.v] (fs_p_need_row K) :=
  T.def_ 15 (g := g_p_need_row K) sc_p_need_row (hbd := fun _ _ _ _ _ _ us hl => match us, hl with | [_], _ => rfl) (hmo := mo_p_need_row)
    (hbody := fun f cdv A outer s H E hr hgd => dss_one (ds_if (p := true) (dt_not (dt_tru (dc_p ((ok_p_is_things T)) hr hgd (dak_cons (k := .v) (de_str) (dak_one (k := .v) (de_var 0)))))) (dss_one (ds_raise (T.exc 62))) (dss_nil)))
    (hfs := h_p_need_row)
abbrev st_Strip___init__ : Stmt := mthS 32 0
abbrev nm_Strip___init__ : List PySem.Str := ["self", "things"]
theorem sc_Strip___init__ : FnScope nm_Strip___init__ ["self", "things"] (defScope st_Strip___init__) := ⟨rfl, rfl, rfl, by decide +kernel, rfl, by decide +kernel, by decide +kernel⟩
theorem ok_Strip___init__ (T : WorC fa fn ts cs w K mg) : DefI P w K mg base 5 "Strip" (He.ga K "Strip") [.v] (Fk_Strip K) (fs_Strip___init__ K) :=
  T.init_ 23 41 43 (q := "Strip.__init__") (g := g_Strip___init__ K) sc_Strip___init__ (hbd := fun _ _ _ _ _ _ us hl => match us, hl with | [_, _], _ => rfl) (hmo := mo_Strip___init__) (hF := ⟨T.cls 42, T.noat 44⟩)
    (hbody := fun f cdv A outer s H E hr hgd => dss_cons (ds_expr (p := true) (dc_p ((ok_p_need_row T)) hr hgd (dak_one (k := .v) (de_var 1))))
    (dss_one (ds_fldM (p := true) (de_var 0) (df_list rfl (de_var 1) (by rfl) (T.free 30)))))
    (hfs := h_Strip___init__)
abbrev st_p_chain_of : Stmt := topS 40
abbrev nm_p_chain_of : List PySem.Str := ["things", "found", "thing"]
theorem sc_p_chain_of : FnScope nm_p_chain_of ["things"] (defScope st_p_chain_of) := ⟨rfl, rfl, rfl, by decide +kernel, rfl, by decide +kernel, by decide +kernel⟩
theorem ok_p_chain_of (T : WorC fa fn ts cs w K mg) : Def P w K mg base 1 "chain_of" ["things"] [.v] (fs_p_chain_of K) :=
  T.def_ 16 (g := g_p_chain_of K) sc_p_chain_of (hbd := fun _ _ _ _ _ _ us hl => match us, hl with | [_], _ => rfl) (hmo := mo_p_chain_of)
    (hbody := fun f cdv A outer s H E hr hgd => dss_cons (ds_set (p := true) 1 sc_p_chain_of.nd (de_tupN (an_nil)))
    (dss_cons (ds_for (p := true) (passes_of rfl) rfl (di_seq (de_revA (de_var 0))) (dt_name 2 sc_p_chain_of.nd) (dss_one (ds_set (p := true) 1 sc_p_chain_of.nd (de_tupN (an_cons (de_var 2) (an_cons (de_var 1) an_nil))))))
    (dss_one (ds_ret (p := true) (de_var 1)))))
    (hfs := h_p_chain_of)
abbrev st_Chain___init__ : Stmt := mthS 43 0
abbrev nm_Chain___init__ : List PySem.Str := ["self", "things"]
theorem sc_Chain___init__ : FnScope nm_Chain___init__ ["self", "things"] (defScope st_Chain___init__) := ⟨rfl, rfl, rfl, by decide +kernel, rfl, by decide +kernel, by decide +kernel⟩
theorem ok_Chain___init__ (T : WorC fa fn ts cs w K mg) : DefI P w K mg base 5 "Chain" (He.ga K "Chain") [.v] (Fk_Chain K) (fs_Chain___init__ K) :=
  T.init_ 24 51 53 (q := "Chain.__init__") (g := g_Chain___init__ K) sc_Chain___init__ (hbd := fun _ _ _ _ _ _ us hl => match us, hl with | [_, _], _ => rfl) (hmo := mo_Chain___init__) (hF := ⟨T.cls 52, T.noat 54⟩)
    (hbody := fun f cdv A outer s H E hr hgd => dss_cons (ds_expr (p := true) (dc_p ((ok_p_need_row T)) hr hgd (dak_one (k := .v) (de_var 1))))
    (dss_one (ds_fld (p := true) (de_var 0) (dc_p ((ok_p_chain_of T).mono (n := 4)) hr hgd (dak_one (k := .v) (de_var 1))))))
    (hfs := h_Chain___init__)
abbrev st_p_blocks_of : Stmt := topS 35
abbrev nm_p_blocks_of : List PySem.Str := ["things", "begin"]
theorem sc_p_blocks_of : FnScope nm_p_blocks_of ["things"] (defScope st_p_blocks_of) := ⟨rfl, rfl, rfl, by decide +kernel, rfl, by decide +kernel, by decide +kernel⟩
theorem ok_p_blocks_of (T : WorC fa fn ts cs w K mg) : Def P w K mg base 1 "blocks_of" ["things"] [.v] (fs_p_blocks_of K) :=
  T.def_ 17 (g := g_p_blocks_of K) sc_p_blocks_of (hbd := fun _ _ _ _ _ _ us hl => match us, hl with | [_], _ => rfl) (hmo := mo_p_blocks_of)
    (hbody := fun f cdv A outer s H E hr hgd => dss_one (ds_ret (p := true) ((df_comp (own := [("begin", 1)]) rfl sc_p_blocks_of.nd (di_range3 (by rfl) (T.free 33) (da_cons (de_int) (da_cons (de_callB ca_len (by rfl) (T.free 29) (by decide +kernel) (da_one (de_var 0))) (da_one (dg_int (T.int 40)))))) (blkOk_by (N := nm_p_blocks_of) (sc := defScope st_p_blocks_of) (by decide +kernel)) (fun _ _ _ _ _ => dt_name 1 sc_p_blocks_of.nd) (fun _ _ _ _ _ => dtts_nil) (fun _ _ _ _ _ => (df_list rfl (de_sl (de_var 0) (do_some (de_var 1)) (do_some (de_add (de_var 1) (dg_int (T.int 40))))) (by rfl) (T.free 30)).de)).de)))
    (hfs := h_p_blocks_of)
abbrev st_Blocks___init__ : Stmt := mthS 38 0
abbrev nm_Blocks___init__ : List PySem.Str := ["self", "things"]
theorem sc_Blocks___init__ : FnScope nm_Blocks___init__ ["self", "things"] (defScope st_Blocks___init__) := ⟨rfl, rfl, rfl, by decide +kernel, rfl, by decide +kernel, by decide +kernel⟩
theorem ok_Blocks___init__ (T : WorC fa fn ts cs w K mg) : DefI P w K mg base 5 "Blocks" (He.ga K "Blocks") [.v] (Fk_Blocks K) (fs_Blocks___init__ K) :=
  T.init_ 25 46 48 (q := "Blocks.__init__") (g := g_Blocks___init__ K) sc_Blocks___init__ (hbd := fun _ _ _ _ _ _ us hl => match us, hl with | [_, _], _ => rfl) (hmo := mo_Blocks___init__) (hF := ⟨T.cls 47, T.noat 49⟩)
    (hbody := fun f cdv A outer s H E hr hgd => dss_cons (ds_expr (p := true) (dc_p ((ok_p_need_row T)) hr hgd (dak_one (k := .v) (de_var 1))))
    (dss_one (ds_fld (p := true) (de_var 0) (dc_p ((ok_p_blocks_of T).mono (n := 4)) hr hgd (dak_one (k := .v) (de_var 1))))))
    (hfs := h_Blocks___init__)
abbrev st_l_shelf_5 : Stmt := topS 56
abbrev nm_l_shelf_5 : List PySem.Str := ["_law_kind", "_law_things"]
theorem sc_l_shelf_5 : FnScope nm_l_shelf_5 ["_law_kind", "_law_things"] (defScope st_l_shelf_5) := ⟨rfl, rfl, rfl, by decide +kernel, rfl, by decide +kernel, by decide +kernel⟩
theorem ok_l_shelf_5 (T : WorC fa fn ts cs w K mg) : Def P w K mg base 7 "_law_shelf" ["_law_kind", "_law_things"] [.v, .v] (fs_l_shelf_5 K) :=
  T.def_ 18 (g := g_l_shelf_5 K) sc_l_shelf_5 (hbd := fun _ _ _ _ _ _ us hl => match us, hl with | [_, _], _ => rfl) (hmo := mo_l_shelf_5)
    (hbody := fun f cdv A outer s H E hr hgd => dss_cons (ds_if (p := true) (dt_cmp (od_eqA (hu_ hr)) (de_var 0) (de_int)) (dss_one (ds_ret (p := false) (de_make (n := 5) ((ok_Strip___init__ T)) hr hgd (dak_one (k := .v) (de_var 1))))) (dss_nil))
    (dss_one (ds_ret (p := false) (de_if (dt_cmp (od_eqA (hu_ hr)) (de_var 0) (de_int)) (de_make (n := 5) ((ok_Chain___init__ T)) hr hgd (dak_one (k := .v) (de_var 1))) (de_make (n := 5) ((ok_Blocks___init__ T)) hr hgd (dak_one (k := .v) (de_var 1)))))))
    (hfs := h_l_shelf_5)
abbrev st_l_taken_2 : Stmt := topS 57
abbrev nm_l_taken_2 : List PySem.Str := ["_law_kind", "_law_thing_here"]
theorem sc_l_taken_2 : FnScope nm_l_taken_2 ["_law_kind", "_law_thing_here"] (defScope st_l_taken_2) := ⟨rfl, rfl, rfl, by decide +kernel, rfl, by decide +kernel, by decide +kernel⟩
theorem ok_l_taken_2 (T : WorC fa fn ts cs w K mg) (TB : TBS K mg base xsL) : Def P w K mg base 10 "_law_taken" ["_law_kind", "_law_thing_here"] [.v, .v] (fs_l_taken_2 K) :=
  T.defT_ 19 (g := g_l_taken_2 K) sc_l_taken_2 (hbd := fun _ _ _ _ _ _ us hl => match us, hl with | [_, _], _ => rfl) (hmo := mo_l_taken_2)
    (hbody := fun f cdv hcd A outer s H E hr hgd => dss_one (ds_ret (p := false) (de_callG (X := cxOf (L2.CX P w) P w K mg base nm_l_taken_2 "_law_taken" (defScope st_l_taken_2) f cdv A outer s H E) (n := 7) ((ok_l_word_4 T).mono (n := 9)) hr hgd (TB.1 _ (List.mem_cons_self ..)) (hcd ((T.cod 4).1 _ (List.mem_cons_self ..)).1) (LamX.lamS_by (by kernel_rfl)) (dak_nil) (fun A outer s H Ex _ _ hr hgd => dc_m ((ok_l_shelf_5 T)) hr hgd (dak_cons (k := .v) (de_var 0) (dak_one (k := .v) (de_var 1)))) (fun _ _ _ _ _ => rfl))))
    (hfs := h_l_taken_2)
abbrev st_Strip_form : Stmt := mthS 32 5
abbrev nm_Strip_form : List PySem.Str := ["self"]
theorem sc_Strip_form : FnScope nm_Strip_form ["self"] (defScope st_Strip_form) := ⟨rfl, rfl, rfl, by decide +kernel, rfl, by decide +kernel, by decide +kernel⟩
theorem ok_Strip_form (T : WorC fa fn ts cs w K mg) : DefM P w K mg base 1 (He.ga K "Strip") "form" [] (fs_Strip_form K) :=
  T.meth_ 26 42 45 (q := "Strip.form") (g := g_Strip_form K) sc_Strip_form (hbd := fun _ _ _ _ _ _ us hl => match us, hl with | [_], _ => rfl) (hmo := mo_Strip_form) 
    (hbody := fun f cdv A outer s H E hr hgd => dss_one (ds_ret (p := true) (de_callTy ca_tuple (by rfl) (T.free 37) (by decide +kernel) (da_one (de_drf (de_fld (de_var 0)))))))
    (hfs := h_Strip_form)
abbrev st_Blocks_form : Stmt := mthS 38 5
abbrev nm_Blocks_form : List PySem.Str := ["self", "block"]
theorem sc_Blocks_form : FnScope nm_Blocks_form ["self"] (defScope st_Blocks_form) := ⟨rfl, rfl, rfl, by decide +kernel, rfl, by decide +kernel, by decide +kernel⟩
theorem ok_Blocks_form (T : WorC fa fn ts cs w K mg) : DefM P w K mg base 1 (He.ga K "Blocks") "form" [] (fs_Blocks_form K) :=
  T.meth_ 27 47 50 (q := "Blocks.form") (g := g_Blocks_form K) sc_Blocks_form (hbd := fun _ _ _ _ _ _ us hl => match us, hl with | [_], _ => rfl) (hmo := mo_Blocks_form) 
    (hbody := fun f cdv A outer s H E hr hgd => dss_one (ds_ret (p := true) (de_tupleS (by rfl) (T.free 37) (da_one ((df_comp (own := [("block", 1)]) rfl sc_Blocks_form.nd (di_seq (de_fld (de_var 0))) (blkOk_by (N := nm_Blocks_form) (sc := defScope st_Blocks_form) (by decide +kernel)) (fun _ _ _ _ _ => dt_name 1 sc_Blocks_form.nd) (fun _ _ _ _ _ => dtts_nil) (fun _ _ _ _ _ => de_tupleS (by rfl) (T.free 37) (da_one (de_var 1)))).de)))))
    (hfs := h_Blocks_form)
abbrev st_Chain_form : Stmt := mthS 43 5
abbrev nm_Chain_form : List PySem.Str := ["self"]
theorem sc_Chain_form : FnScope nm_Chain_form ["self"] (defScope st_Chain_form) := ⟨rfl, rfl, rfl, by decide +kernel, rfl, by decide +kernel, by decide +kernel⟩
theorem ok_Chain_form (T : WorC fa fn ts cs w K mg) : DefM P w K mg base 1 (He.ga K "Chain") "form" [] (fs_Chain_form K) :=
  T.meth_ 28 52 55 (q := "Chain.form") (g := g_Chain_form K) sc_Chain_form (hbd := fun _ _ _ _ _ _ us hl => match us, hl with | [_], _ => rfl) (hmo := mo_Chain_form) 
    (hbody := fun f cdv A outer s H E hr hgd => dss_one (ds_ret (p := true) (de_fld (de_var 0))))
    (hfs := h_Chain_form)
abbrev st_l_form_8 : Stmt := topS 55
abbrev nm_l_form_8 : List PySem.Str := ["_law_kind", "_law_things", "_law_found", "_law_thing_here", "_law_begin"]
theorem sc_l_form_8 : FnScope nm_l_form_8 ["_law_kind", "_law_things"] (defScope st_l_form_8) := ⟨rfl, rfl, rfl, by decide +kernel, rfl, by decide +kernel, by decide +kernel⟩
theorem ok_l_form_8 (T : WorC fa fn ts cs w K mg) : Def P w K mg base 1 "_law_form" ["_law_kind", "_law_things"] [.v, .v] (fs_l_form_8 K) :=
  T.def_ 20 (g := g_l_form_8 K) sc_l_form_8 (hbd := fun _ _ _ _ _ _ us hl => match us, hl with | [_, _], _ => rfl) (hmo := mo_l_form_8)
    (hbody := fun f cdv A outer s H E hr hgd => dss_cons (ds_if (p := true) (dt_cmp (od_eqA (hu_ hr)) (de_var 0) (de_int)) (dss_one (ds_ret (p := true) (de_var 1))) (dss_nil))
    (dss_cons (ds_if (p := true) (dt_cmp (od_eqA (hu_ hr)) (de_var 0) (de_int)) (dss_one (ds_ret (p := true) (de_tupleS (by rfl) (T.free 37) (da_one ((df_comp (own := [("_law_begin", 4)]) rfl sc_l_form_8.nd (di_range3 (by rfl) (T.free 33) (da_cons (de_int) (da_cons (de_callB ca_len (by rfl) (T.free 29) (by decide +kernel) (da_one (de_var 1))) (da_one (de_int))))) (blkOk_by (N := nm_l_form_8) (sc := defScope st_l_form_8) (by decide +kernel)) (fun _ _ _ _ _ => dt_name 4 sc_l_form_8.nd) (fun _ _ _ _ _ => dtts_nil) (fun _ _ _ _ _ => de_sl (de_var 1) (do_some (de_var 4)) (do_some (de_add (de_var 4) (de_int))))).de))))) (dss_nil))
    (dss_cons (ds_set (p := true) 2 sc_l_form_8.nd (de_tupN (an_nil)))
    (dss_cons (ds_for (p := true) (passes_of rfl) rfl (di_seq (de_revA (de_var 1))) (dt_name 3 sc_l_form_8.nd) (dss_one (ds_set (p := true) 2 sc_l_form_8.nd (de_tupN (an_cons (de_var 3) (an_cons (de_var 2) an_nil))))))
    (dss_one (ds_ret (p := true) (de_var 2)))))))
    (hfs := h_l_form_8)
abbrev st_l_right_29 : Stmt := topS 58
abbrev nm_l_right_29 : List PySem.Str := ["_law_thing_here", "_law_kept", "_law_due", "_law_found", "_law_kind"]
theorem sc_l_right_29 : FnScope nm_l_right_29 ["_law_thing_here"] (defScope st_l_right_29) := ⟨rfl, rfl, rfl, by decide +kernel, rfl, by decide +kernel, by decide +kernel⟩
theorem ok_l_right_29 (T : WorC fa fn ts cs w K mg) (TB : TBS K mg base xsL) : Def P w K mg base 11 "_law_right" ["_law_thing_here"] [.v] (fs_l_right_29 K) :=
  T.def_ 21 (g := g_l_right_29 K) sc_l_right_29 (hbd := fun _ _ _ _ _ _ us hl => match us, hl with | [_], _ => rfl) (hmo := mo_l_right_29)
    (hbody := fun f cdv A outer s H E hr hgd => dss_cons (ds_set (p := true) 1 sc_l_right_29.nd (de_callB (ca_reprA (hu_ hr) hgd TB.2) (by rfl) (T.free 34) (by decide +kernel) (da_one (de_var 0))))
    (dss_cons (ds_set (p := true) 2 sc_l_right_29.nd (dc_p ((ok_l_lies_3 T).mono (n := 10)) hr hgd (dak_one (k := .v) (de_var 0))))
    (dss_cons (ds_set (p := true) 3 sc_l_right_29.nd (dc_p ((ok_p_is_things T).mono (n := 10)) hr hgd (dak_cons (k := .v) (de_str) (dak_one (k := .v) (de_var 0)))))
    (dss_cons (ds_if (p := true) ((dw_or (dt_not (dt_tru (de_callB ca_isi (by rfl) (T.free 28) (by decide +kernel) (da_cons (de_var 3) (da_one (de_ty (by rfl) (T.free 26) (by decide +kernel))))))) (dw_or1 (dt_cmp (od_neA (hu_ hr)) (de_var 3) (de_var 2)))).dt) (dss_one (ds_ret (p := true) (de_bl))) (dss_nil))
    (dss_cons (ds_for (p := true) (passes_of rfl) rfl (di_range1 (by rfl) (T.free 33) (da_one (de_int))) (dt_name 4 sc_l_right_29.nd) (dss_cons (ds_if (p := false) (dt_cmp (od_neA (hu_ hr)) (dc_m ((ok_l_taken_2 T TB)) hr hgd (dak_cons (k := .v) (de_var 4) (dak_one (k := .v) (de_var 0)))) (de_ix (hu_ hr) (de_lstN (an_cons (de_str) (an_cons (de_str) an_nil))) (de_callTy ca_int (by rfl) (T.free 27) (by decide +kernel) (da_one (de_var 2))))) (dss_one (ds_ret (p := true) (de_bl))) (dss_nil))
    (dss_one (ds_if (p := false) ((dw_and (dt_tru (de_var 2)) (dw_and1 (dt_cmp (od_neA (hu_ hr)) (de_callB (ca_reprA (hu_ hr) hgd TB.2) (by rfl) (T.free 34) (by decide +kernel) (da_one (de_meth0 (n := 10) (tbl := [(He.ga K "Strip", fs_Strip_form K), (He.ga K "Blocks", fs_Blocks_form K), (He.ga K "Chain", fs_Chain_form K)]) (tbl_cons ((ok_Strip_form T).mono (n := 10)) (tbl_cons ((ok_Blocks_form T).mono (n := 10)) (tbl_cons ((ok_Chain_form T).mono (n := 10)) tbl_nil))) hr hgd (dc_m ((ok_l_shelf_5 T).mono (n := 10)) hr hgd (dak_cons (k := .v) (de_var 4) (dak_one (k := .v) (de_var 0))))))) (de_callB (ca_reprA (hu_ hr) hgd TB.2) (by rfl) (T.free 34) (by decide +kernel) (da_one (dc_p ((ok_l_form_8 T).mono (n := 10)) hr hgd (dak_cons (k := .v) (de_var 4) (dak_one (k := .v) (de_var 0))))))))).dt) (dss_one (ds_ret (p := true) (de_bl))) (dss_nil)))))
    (dss_one (ds_ret (p := true) (de_cmp (od_eqA (hu_ hr)) (de_callB (ca_reprA (hu_ hr) hgd TB.2) (by rfl) (T.free 34) (by decide +kernel) (da_one (de_var 0))) (de_var 1)))))))))
    (hfs := h_l_right_29)
abbrev st_law_k35 : Stmt := topS 59
abbrev nm_law_k35 : List PySem.Str := ["_law_script", "_law_state", "_law_turn", "_law_good", "_law_thing_here", "_law_k"]
theorem sc_law_k35 : FnScope nm_law_k35 ["_law_script"] (defScope st_law_k35) := ⟨rfl, rfl, rfl, by decide +kernel, rfl, by decide +kernel, by decide +kernel⟩
theorem ok_law (T : WorC fa fn ts cs w K mg) : ∃ f fd, mg "law" = some (.ref f) ∧ (∀ (s : Shared) (u : Value), BindsTo s fd ⟨[u], []⟩ [("_law_script", u)]) ∧ ∀ base : Heap, TBS K mg base xsL → FnG P w K mg base 12 f fd ["_law_script"] (toSp K [.s] (fs_law_k35 K)) :=
  T.lawS_ (xs := xsL) 22 (g := g_law_k35 K) sc_law_k35 (hbd := fun _ _ _ _ _ _ us hl => match us, hl with | [_], _ => rfl)
    (hbody := fun base TB f cdv hcd A outer s H E hr hgd => dss_cons (ds_set (p := false) 1 sc_law_k35.nd (dc_m ((ok_l_begun T).mono (n := 11)) hr hgd (dak_scr 0)))
    (dss_cons (ds_for (p := true) (passes_of rfl) rfl (di_range1 (by rfl) (T.free 33) (da_one (de_callB (ca_maxA rfl (hu_ hr)) (by rfl) (T.free 31) (by decide +kernel) (da_cons (de_int) (da_one (de_callB (ca_minA rfl (hu_ hr)) (by rfl) (T.free 32) (by decide +kernel) (da_cons (de_int) (da_one (de_lenS 0 (by rfl) (T.free 29)))))))))) (dt_name 2 sc_law_k35.nd) (dss_cons (ds_set (p := false) 3 sc_law_k35.nd (de_tupleS (by rfl) (T.free 37) (da_one (dc_m ((ok_l_row_2 T).mono (n := 11)) hr hgd (dak_cons (k := .v) (de_var 1) (dak_one (k := .v) (de_int)))))))
    (dss_cons (ds_if (p := false) (dt_cmp (od_eqA (hu_ hr)) (dc_m ((ok_l_take T).mono (n := 11)) hr hgd (dak_cons (k := .v) (de_var 1) (dak_one (k := .v) (de_int)))) (de_int)) (dss_one (ds_set (p := false) 3 sc_law_k35.nd (de_tupleS (by rfl) (T.free 37) (da_one ((df_comp (own := [("_law_k", 5)]) rfl sc_law_k35.nd (di_range1 (by rfl) (T.free 33) (da_one (de_add (de_int) (dc_m ((ok_l_take T).mono (n := 11)) hr hgd (dak_cons (k := .v) (de_var 1) (dak_one (k := .v) (de_int))))))) (blkOk_by (N := nm_law_k35) (sc := defScope st_law_k35) (by decide +kernel)) (fun _ _ _ _ _ => dt_name 5 sc_law_k35.nd) (fun _ _ _ _ _ => dtts_nil) (fun _ _ _ _ _ => dc_m ((ok_l_thing T).mono (n := 11)) hr hgd (dak_cons (k := .v) (de_var 1) (dak_one (k := .v) (de_int))))).de))))) (dss_nil))
    (dss_cons (ds_set (p := false) 4 sc_law_k35.nd (dc_m ((ok_l_changed T TB).mono (n := 11)) hr hgd (dak_cons (k := .v) (de_var 1) (dak_one (k := .v) (de_var 3)))))
    (dss_cons (ds_if (p := false) (dt_cmp (od_eqA (hu_ hr)) (dc_m ((ok_l_take T).mono (n := 11)) hr hgd (dak_cons (k := .v) (de_var 1) (dak_one (k := .v) (de_int)))) (de_int)) (dss_one (ds_set (p := false) 4 sc_law_k35.nd (dc_m ((ok_l_changed T TB).mono (n := 11)) hr hgd (dak_cons (k := .v) (de_var 1) (dak_one (k := .v) (de_var 4)))))) (dss_nil))
    (dss_one (ds_if (p := false) ((dw_or (dt_not (dt_tru (dc_m ((ok_l_right_29 T TB)) hr hgd (dak_one (k := .v) (de_var 4))))) (dw_or1 (dt_not (dt_tru (dc_m ((ok_l_right_29 T TB)) hr hgd (dak_one (k := .v) (de_var 3))))))).dt) (dss_one (ds_ret (p := true) (de_bl))) (dss_nil))))))))
    (dss_one (ds_ret (p := true) (de_bl)))))
    (hfs := h_law_k35)
end
end LW
namespace LW
open PySem PySem.Spec PySem.W PyProof.Rows L2 DL
abbrev hk : PySem.W.Hook := He.hookX 5 fa fn ts [] (fun K => cs.all (Ck.ok K))
end LW
open PySem PySem.W PySem.Calls PyProof.Rows
set_option maxHeartbeats 0 in
theorem PySem.Challenge.cw_turnshelf_k35_rows_spoilt_anywhere_holds : PySem.Challenge.rw_turnshelf_k35_rows_spoilt_anywhere.Holds := by
  w_on; o_law
  o_head LW.hk
  case hw => w_witness2
  refine DL.walk_ofS (l := PySem.Challenge.rw_turnshelf_k35_rows_spoilt_anywhere) (n := 63) (k := 12) (x := "_law_script") LW.xsL rfl (by decide) ?_ ⟨rfl, by decide, by decide⟩ ?I ?H ?F
  case I => kernel_rfl
  case H => kernel_rfl
  case F =>
    intro w mg fa h Y G hmg0
    obtain ⟨K, kin, c⟩ := Y
    have hmg : mg ("law" : PySem.Str) = some (.ref fa) := by
      exact hmg0
    have T : DL.WorC LW.fa LW.fn LW.ts LW.cs w K mg := DL.WorC.mk (DL.WorT.mk (DL.Wor.mk ⟨h, kin, G⟩ c.t.d) c.t) c.more
    obtain ⟨f, fd, e, hb, hF⟩ := LW.ok_law (P := (PySem.Challenge.rw_turnshelf_k35_rows_spoilt_anywhere).prog) (w := w) T
    rw [e] at hmg
    cases hmg
    exact ⟨K, fd, DL.toSp K [.s] (LW.fs_law_k35 K), kin, (T.cod 4).1, hb, fun H a zs hl hO hS => DL.only_scrT hO hS ⟨zs, rfl, hl, DL.MT_at (T.cod 4).2 (List.mem_cons_self ..), fun _ => rfl⟩ LW.mo_law_k35, fun base _ _ tb => hF base tb⟩
  rfl
