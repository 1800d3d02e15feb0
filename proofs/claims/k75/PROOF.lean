import PyProof.Rows.All
import Wide.All
import OpenK.AllK
import Wide.FinOn
import KE.KStateDown
import Lean
import HandS.Head0
import HandS.Head1
import HandS.Head2
import HandS.HeadEnd
import HandS.HeadHook1
import HandS.HeadHook2
import HandS.HeadHook3
import HandS.HeadHook4
import HandS.ForMost
import HandS.Deep
import HandS.ForExc
import HandS.Iter
import HandS.Zip
import HandS.Rev
import HandS.Conv
import HandS.TupAny
import HandS.TupMul
import KE.KIndexOf
import HandS.Lambda
import HandS.Dict
import HandS.More
import HandS.Wide
import HandS.IsInst
import HandS.Style
import HandS.Defaults
import HandS.HeadNt
import KE.GoesMore
import PyProof.SeqIndex
import PyProof.ReprRoads
import KE.DataMinMax
import KE.KRevSl
import PyProof.ReprLen
import HandS.SortKw
import HandS.SetFor
import HandS.SortInts
import HandS.SortOrd
import PyProof.Rows.SortShell
import PyProof.SumWalkG
import KE.KIsAll
import HandS.Exc
import HandS.ExcIs
import HandS.ExcValue
import KE.KSliceW
import HandS.Walk
import KE.KDictPairs
import HandS.ClsMeth
import PyProof.TupleOfSeq
import PyProof.TupleOfGen
import PyProof.ListNew
import KE.KItemsList
import KE.KDictList
import HandS.ListItems
import PyProof.NeKinds
import PyProof.EqAt
import PyProof.CallStr
import PyProof.EqKinds
import PyProof.Rows.IntBool
import PyProof.StrOps2
import KE.KIntText
import KE.GoesZip
import PySem.Challenge.RW_turnshelf_k75_worsts_told
set_option Elab.async false
set_option linter.all false
set_option maxRecDepth 100000
set_option Elab.async false
set_option linter.all false
set_option maxRecDepth 100000
namespace DL
open PySem PySem.Spec PyProof.Rows L2
section
variable {X : Cx} {pins : List (Addr × Obj)} {σ : L2.St} {H : Hp} {s : Shared} {Q : VK} {vs : List V} {us : List Value} {es : List Expr} {t : TA} {pos : Pos}
def Fz (Q : VK) (H : Hp) (vs : List V) : Prop := ∀ p o, o.dict = none → H p = none → Q (.ref p) (upd H p (.frz o (.tup vs)))
theorem laid_fz {k : Nat} (I : Inv X pins σ H s) (r : Vals vs us) (hz : vs.length ≤ sizeLine) (h : Fz Q H vs) :
    EP X pins σ Q (.ref s.heap.objs.size) { s with toks := k, heap := s.heap.push { cls := .type "tuple", data := .seq us.toArray } } :=
  ⟨.ref s.heap.objs.size, _, I.laid (fun b u q => Heap.get?_push_of_some _ q) (Nat.le_refl _) (o := .frz _ (.tup vs)) ⟨Heap.get?_push_size _ rfl, hz, us, r, IsTup.new _ _⟩, rfl, h _ _ rfl (I.hok.fresh (Nat.le_refl _))⟩
def tTupF (t : TA) : TE := fun σ H Q => t σ H fun xs H1 => xs.length ≤ sizeLine ∧ Fz Q H1 xs
theorem pe_tupF {x1} (h : PA X es t) : PE X (.Tuple es x1 pos) (tTupF t) :=
  ⟨fun pins s σ H Q I hq => wpAny_Tuple_spliced (thn (h.run pos pins s σ H _ I hq) fun us s1 ⟨xs, H1, I1, r, z, q⟩ => ⟨by rw [← r.length]; exact z, laid_fz (k := s1.toks) I1 r z q⟩)⟩
/-- t + u -/
def rCatF (K : PySem.W.Frag) : R2 := fun x y H Q => ∃ a b xs ys, x = .ref a ∧ y = .ref b ∧ SqT K H a xs ∧ SqT K H b ys ∧ xs.length + ys.length ≤ sizeLine ∧
  (xs = [] → Q (.ref b) H) ∧ (xs ≠ [] → ys = [] → Q (.ref a) H) ∧ (xs ≠ [] → ys ≠ [] → Fz Q H (xs ++ ys))
theorem op_catF : OpR X (binaryOp .Add) (rCatF X.K) := by
  intro pins s σ H x y v u Q I rx ry h
  obtain ⟨a, b, xs, ys, rfl, rfl, ha, hb, hz, q0, q1, q2⟩ := h
  by_cases hx : xs = []
  · exact op_catA pins s σ H _ _ v u Q I rx ry ⟨a, b, xs, ys, rfl, rfl, ha, hb, hz, q0, q1, fun z => absurd hx z⟩
  · by_cases hy : ys = []
    · exact op_catA pins s σ H _ _ v u Q I rx ry ⟨a, b, xs, ys, rfl, rfl, ha, hb, hz, q0, q1, fun _ z => absurd hy z⟩
    · cases rx
      cases ry
      obtain ⟨its, r1, p1, _⟩ := I.tuple ha
      obtain ⟨its2, r2, p2, _⟩ := I.tuple hb
      refine HT.cat_tup p1 p2 (fun z => hx (r1.nil_iff.mp z)) (fun z => absurd (r2.nil_iff.mp z) hy) (fun z => ?_) (by rw [← r1.length, ← r2.length]; exact hz)
      exact laid_fz (k := s.toks) I (r1.append r2) (by rw [List.length_append]; exact hz) (q2 hx hy)
/-- tuple(xs) -/
theorem call_tuple_ofF : CallR X (.type "tuple") (fun xs H Q => ∃ p ys, xs = [.ref p] ∧ ((SqL X.K H p ys ∧ Fz Q H ys) ∨ (SqT X.K H p ys ∧ Q (.ref p) H))) := by
  intro pins s σ H xs us Q I r h
  obtain ⟨p, ys, rfl, ⟨hq, q⟩ | ⟨hq, q⟩⟩ := h
  · obtain ⟨u, rfl, rx⟩ := vals1 r
    cases rx
    obtain ⟨its, r', pl, hz⟩ := I.list hq
    have hlen := r'.length
    refine call_tuple_list pl.isList (fun h' kp => ?_) (by simp only [List.size_toArray] <;> omega)
    exact laid_fz (k := s.toks) (s := { s with heap := h' }) (I.kept (t' := s.toks) kp) r' hz q
  · exact call_tuple_of pins s σ H _ us Q I r ⟨p, ys, rfl, .inr ⟨hq, q⟩⟩
/-- enumerate of a list -/
def IteF (K : PySem.W.Frag) (a : Addr) : It where
  go := fun i H => ∃ (xs : List V) (x : V), SqL K H a xs ∧ xs[i]? = some x
  yld := fun i H v H' => ∃ T o x, v = .ref T ∧ o.dict = none ∧ H T = none ∧ H' = upd H T (.frz o (.tup [.int (i : Nat), x])) ∧ ∀ xs, SqL K H a xs → xs[i]? = some x
  stop := fun i H => ∃ xs : List V, SqL K H a xs ∧ xs.length ≤ i
theorem turn_enumF {P : Program} {w : World} {K : PySem.W.Frag} {elts : List Expr} {kk : Nat} {tpos : Pos} (a e it : Addr) :
    Turn P w K (.Tuple elts kk tpos) (IteF K a) [e, it] e (fun i h => (∃ old, IsEnum h e it ((i : Nat) : Int) old) ∧ h.IsListIter it a i ∧ e ≠ it) where
  mem := (turn_enum (P := P) (w := w) (K := K) (elts := elts) (kk := kk) (tpos := tpos) a e it).mem
  obj := (turn_enum (P := P) (w := w) (K := K) (elts := elts) (kk := kk) (tpos := tpos) a e it).obj
  keep := (turn_enum (P := P) (w := w) (K := K) (elts := elts) (kk := kk) (tpos := tpos) a e it).keep
  item := by
    intro X hP hw hK hc i pins s σ H E I hf st hg
    subst hP hw hK
    have lt : ∀ b ∈ [e, it], b < s.heap.objs.size := fun b hb => by
      obtain ⟨o, ho, _⟩ := (turn_enum (P := X.prog) (w := X.w) (K := X.K) (elts := elts) (kk := kk) (tpos := tpos) a e it).obj i s.heap st b hb
      exact Heap.lt_size ho
    obtain ⟨⟨old, he⟩, hit, hne⟩ := st
    obtain ⟨xs, x, hq, hx⟩ := hg
    obtain ⟨its, rv, p, hz⟩ := I.list hq
    obtain ⟨u, hu, ru⟩ := rv.get hx
    refine wpAny_pyNext_enum_item he hit p.isList (x := u) (by simpa using hu) hne fun h' ho hit' hT hsz hk => ?_
    refine ⟨_, rfl, wpAny_letOwnedTupleGo_enum (s := { s with heap := h', toks := s.toks + 1 }) ho fun h2 he' sb => ?_⟩
    have hT2 := (sb.2 _ (Nat.ne_of_gt (lt e (by simp)))).trans hT
    have I1 := I.turnedNew (t' := s.toks + 1) (ob := .frz _ (.tup [.int (i : Nat), x])) (ch := [e, it]) (fun b ob hb q => (sb.2 b (fun z => hb (by simp [z]))).trans (hk b ob (fun z => hb (by simp [z])) (fun z => hb (by simp [z])) q)) hf (Nat.le_refl _)
      ⟨hT2, by show 2 ≤ sizeLine; decide, [.int i s.toks, u], .cons ⟨_, rfl⟩ (.cons ru .nil), ⟨_, hT2, rfl, _, rfl⟩⟩
    refine ⟨.ref s.heap.objs.size, _, I1, rfl, ⟨_, _, x, rfl, rfl, I.hok.fresh (Nat.le_refl _), rfl, fun ys hy => by rw [I.list_inj hy hq]; exact hx⟩, ⟨⟨u, ?_⟩, hit'.at fun o q => (sb.2 it (Ne.symm hne)).trans q, hne⟩, fun b hb => ?_⟩
    · rw [show ((i + 1 : Nat) : Int) = (i : Int) + 1 by omega]; exact he'
    · rw [upd_ne (Nat.ne_of_lt (lt b hb))]; exact (hf b hb).1
  done := (turn_enum (P := P) (w := w) (K := K) (elts := elts) (kk := kk) (tpos := tpos) a e it).done
  self := (turn_enum (P := P) (w := w) (K := K) (elts := elts) (kk := kk) (tpos := tpos) a e it).self
def KTup (K : PySem.W.Frag) (a : Addr) (vs : List V) : Prop := ∃ (o : Obj) (its : Array Value) (n : Nat), K.lookup a = some o ∧ o.cls = .type "tuple" ∧ o.dict = none ∧ o.data = .seq its n ∧ its.size ≤ sizeLine ∧ Vals vs its.toList
/-- a tuple of a known object -/
def TupK (K : PySem.W.Frag) (H : Hp) (a : Addr) (vs : List V) : Prop := (∃ o, o.dict = none ∧ H a = some (.frz o (.tup vs))) ∨ KTup K a vs
theorem TupK.sq {K : PySem.W.Frag} {a : Addr} (h : TupK K H a vs) : SqT K H a vs := by
  rcases h with ⟨o, _, e⟩ | ⟨o, its, n, h1, h2, _, h3, h4, h5⟩
  · exact .inl (.inr ⟨o, e⟩)
  · exact .inr ⟨o, its, n, h1, h2, h3, h4, h5⟩
instance {K : PySem.W.Frag} {H : Hp} {a : Addr} {vs : List V} : Coe (TupK K H a vs) (SqT K H a vs) := ⟨TupK.sq⟩
theorem TupK.nod {a : Addr} (I : Inv X pins σ H s) (h : TupK X.K H a vs) : ∃ ob, s.heap.get? a = some ob ∧ ob.dict = none := by
  rcases h with ⟨o, d, e⟩ | ⟨o, its, n, h1, _, d, _⟩
  · exact ⟨o, (I.hok a _ e).1, d⟩
  · exact ⟨o, I.kIn a o h1, d⟩
def rIdxT (K : PySem.W.Frag) : V → List V → Hp → VK → Prop := fun x xs H Q => ∃ (a : Addr) (ns : List Int) (k : Int), x = V.ref a ∧ xs = [.int k] ∧ SqT K H a (ns.map V.int) ∧ k ∈ ns ∧ Q (.int (ns.idxOf k : Nat)) H
theorem mt_idxT : MtR X "tuple.index" (rIdxT X.K) := by
  intro pins s σ H x xs v us Q I rx rxs h
  obtain ⟨a, ns, k, rfl, rfl, hs, hk, q⟩ := h
  cases rx
  obtain ⟨u, rfl, t, rfl⟩ := vals1 rxs
  obtain ⟨its, r, p, hz⟩ := I.tuple hs
  exact PySem.SeqAt.tuple_index_ints (show s.heap.IsTuple a its.toArray from p) (L2.intsAre_of (us := its) (by simpa using r)) hk ⟨.int (ns.idxOf k : Nat), H, I.tok _, ⟨_, rfl⟩, q⟩
/-- o.index(e), o a list or a tuple -/
def tIdxA (K : PySem.W.Frag) (to : TE) (t : TA) : TE := fun σ H Q => to σ H fun x H1 =>
  (tyV K "list" x H1 ∧ t σ H1 fun xs H2 => rIndexD K x xs H2 Q) ∨ ((∃ a vs, x = .ref a ∧ TupK K H1 a vs) ∧ t σ H1 fun xs H2 => rIdxT K x xs H2 Q)
theorem pe_idxA {o e : Expr} {to : TE} {ta : TA} {apos cpos : Pos} (hu : X.A.units + 65 < cLine) (ho : PE X o to) (ha : PA X [e] ta)
    (hbase : attributeBase o "index" X.env (eval o X.env) = eval o X.env := by rfl)
    (hfew : ((backTo cpos (starEach [e] X.env)).all (fun x => !x.1) && (backToKw cpos (keywordEach [] X.env)).all (fun x => x.1.isSome)
      && decide ([e].length + ([] : List Keyword).length + (if ([] : List Keyword).isEmpty then 0 else 1) < 30)) = true := by rfl)
    (hline : (apos.endLine == cpos.line) = true := by rfl) (hs : starEach [e] X.env = (false, eval e X.env) :: starEach [] X.env := by rfl) (hplain : (backTo cpos (starEach [] X.env)).any (·.1) = false := by rfl) :
    PE X (.Call (.Attribute o "index" apos) [e] [] cpos) (tIdxA X.K to ta) := by
  refine ⟨fun pins s σ H Q I h => ?_⟩
  refine wpAny_Call_method_late hbase hfew hline rfl (thn (ho.run pins s σ H _ I h) fun v s1 ⟨x, H1, I1, r1, q1⟩ => ?_)
  have fin : ∀ {id : String} {r : V → List V → Hp → VK → Prop} {q1 : ta σ H1 fun xs H2 => r x xs H2 Q} (hm : MtR X id r), wpAny (model X.prog X.w) X.A (callWith cpos (.builtin id) [v] (backTo cpos (starEach [e] X.env)) []) (EP X pins σ Q) X.xe s1 := fun {id r q1} hm => by
    have hA := ha.run cpos pins s1 σ H1 _ I1 q1
    rw [hs] at hA ⊢
    refine Calls.callWith_builtin (by show (false || (backTo cpos (starEach [] X.env)).any (·.1)) = false; rw [hplain] <;> rfl) (Calls.evalArgs_plain ?_)
    exact thn hA fun us s2 ⟨vs, H2, I2, r2, q2⟩ => hm pins s2 σ H2 x vs v us Q I2 r1 r2 q2
  rcases q1 with ⟨ty, q1⟩ | ⟨⟨a, vs, rfl, tk⟩, q1⟩
  · obtain ⟨h1, h2⟩ := tyV_is I1 r1 ty
    exact ⟨"list", "list.index", PySem.F.plainAttrs_list, PySem.F.slot_list_index, PySem.F.type_list_index, h1, h2, fin (q1 := q1) (mt_indexD hu)⟩
  · cases r1
    obtain ⟨its, _, p, _⟩ := I1.tuple tk.sq
    exact ⟨"tuple", "tuple.index", PySem.F.plainAttrs_tuple, PySem.F.slot_tuple_index, PySem.F.type_tuple_index, p.typeIs, fun b eb => by cases eb; exact tk.nod I1, fin (q1 := q1) mt_idxT⟩
end
end DL
set_option Elab.async false
set_option linter.all false
set_option maxRecDepth 100000
namespace DL
open PySem PySem.Spec PyProof.Rows L2
/-- data by value; ref: a thing by reference (a def, a class, an object in memory) -/
inductive D where
  | non | bl (b : Bool) | int (i : Int) | str (x : Str) | ty (n : String) | ref (a : Addr)
  | tup (xs : List D) | lst (xs : List D)
  | dic (kvs : List (Key × D))
/-- the written part alone -/
abbrev H0e : Hp := fun _ => none
def TupAt (K : PySem.W.Frag) (A : Addr → Prop) (H : Hp) (a : Addr) (vs : List V) : Prop := (¬ A a ∧ ∃ o, o.dict = none ∧ H a = some (.frz o (.tup vs))) ∨ KTup K a vs
def LstAt (A : Addr → Prop) (H : Hp) (a : Addr) (vs : List V) : Prop := ¬ A a ∧ H a = some (.lst vs)
/-- by value: it is never written again -/
def DicAt (A : Addr → Prop) (H : Hp) (a : Addr) (kvs : List (Key × V)) : Prop := ¬ A a ∧ ∃ o, H a = some (.frz o (.dK kvs))
section
variable (K : PySem.W.Frag) (A : Addr → Prop) (H : Hp)
mutual
/-- v bears d, standing on nothing that A names -/
inductive Is : V → D → Prop
  | non : Is .non .non
  | bl (b : Bool) : Is (.bl b) (.bl b)
  | int (i : Int) : Is (.int i) (.int i)
  | str (x : Str) : Is (.str x) (.str x)
  | ty (n : String) : Is (.ty n) (.ty n)
  | ref (a : Addr) : Is (.ref a) (.ref a)
  | tup {a : Addr} {vs : List V} {ds : List D} : TupAt K A H a vs → IsL vs ds → Is (.ref a) (.tup ds)
  | lst {a : Addr} {vs : List V} {ds : List D} : LstAt A H a vs → IsL vs ds → Is (.ref a) (.lst ds)
  | dic {a : Addr} {kvs : List (Key × V)} {kds : List (Key × D)} : DicAt A H a kvs → IsK kvs kds → Is (.ref a) (.dic kds)
inductive IsL : List V → List D → Prop
  | nil : IsL [] []
  | cons {v : V} {d : D} {vs : List V} {ds : List D} : Is v d → IsL vs ds → IsL (v :: vs) (d :: ds)
inductive IsK : List (Key × V) → List (Key × D) → Prop
  | nil : IsK [] []
  | cons {k : Key} {v : V} {d : D} {vs : List (Key × V)} {ds : List (Key × D)} : Is v d → IsK vs ds → IsK ((k, v) :: vs) ((k, d) :: ds)
end
end
/-- what is tracked and may not change stays, and may not change later either -/
def Step (A : Addr → Prop) (H : Hp) (A' : Addr → Prop) (H' : Hp) : Prop := ∀ a o, H a = some o → ¬ A a → H' a = some o ∧ ¬ A' a
theorem Step.refl (A : Addr → Prop) (H : Hp) : Step A H A H := fun _ _ h n => ⟨h, n⟩
theorem Step.trans {A A' A'' : Addr → Prop} {H H' H'' : Hp} (x : Step A H A' H') (y : Step A' H' A'' H'') : Step A H A'' H'' := fun a o h n =>
  let ⟨h1, n1⟩ := x a o h n
  y a o h1 n1
section
variable {K : PySem.W.Frag} {A A' B : Addr → Prop} {H H' : Hp}
theorem Rd.step {u : HO} {a : Addr} (s : Step A H A' H') (n : ¬ A a) (r : Rd H a u) : Rd H' a u ∧ ¬ A' a := by
  rcases r with r | ⟨o, r⟩
  · exact ⟨.inl (s a _ r n).1, (s a _ r n).2⟩
  · exact ⟨.inr ⟨o, (s a _ r n).1⟩, (s a _ r n).2⟩
theorem TupAt.step {a : Addr} {vs : List V} (s : Step A H A' H') (h : TupAt K A H a vs) : TupAt K A' H' a vs := by
  rcases h with ⟨n, o, d, e⟩ | h
  · exact .inl ⟨(s a _ e n).2, o, d, (s a _ e n).1⟩
  · exact .inr h
theorem LstAt.step {a : Addr} {vs : List V} (s : Step A H A' H') (h : LstAt A H a vs) : LstAt A' H' a vs := ⟨(s a _ h.2 h.1).2, (s a _ h.2 h.1).1⟩
theorem DicAt.step {a : Addr} {vs : List (Key × V)} (s : Step A H A' H') (h : DicAt A H a vs) : DicAt A' H' a vs := let ⟨n, o, e⟩ := h; ⟨(s a _ e n).2, o, (s a _ e n).1⟩
theorem SqL.of0 {a : Addr} {vs : List V} (h : SqL K H0e a vs) : SqL K H a vs := by
  rcases h with (h | ⟨o, h⟩) | h
  · cases h
  · cases h
  · exact .inr h
theorem TupAt.sq {a : Addr} {vs : List V} (h : TupAt K A H a vs) : SqT K H a vs := by
  rcases h with ⟨_, o, _, e⟩ | ⟨o, its, n, h1, h2, _, h3, h4, h5⟩
  · exact .inl (.inr ⟨o, e⟩)
  · exact .inr ⟨o, its, n, h1, h2, h3, h4, h5⟩
theorem TupAt.tk {a : Addr} {vs : List V} (h : TupAt K A H a vs) : TupK K H a vs := by
  rcases h with ⟨_, h⟩ | h
  · exact .inl h
  · exact .inr h
mutual
theorem Is.step (s : Step A H A' H') : ∀ {v : V} {d : D}, Is K A H v d → Is K A' H' v d
  | _, _, .non => .non
  | _, _, .bl b => .bl b
  | _, _, .int i => .int i
  | _, _, .str x => .str x
  | _, _, .ty n => .ty n
  | _, _, .ref a => .ref a
  | _, _, .tup h l => .tup (h.step s) (IsL.step s l)
  | _, _, .lst h l => .lst (h.step s) (IsL.step s l)
  | _, _, .dic h l => .dic (h.step s) (IsK.step s l)
theorem IsL.step (s : Step A H A' H') : ∀ {v : List V} {d : List D}, IsL K A H v d → IsL K A' H' v d
  | _, _, .nil => .nil
  | _, _, .cons h l => .cons (Is.step s h) (IsL.step s l)
theorem IsK.step (s : Step A H A' H') : ∀ {v : List (Key × V)} {d : List (Key × D)}, IsK K A H v d → IsK K A' H' v d
  | _, _, .nil => .nil
  | _, _, .cons h l => .cons (Is.step s h) (IsK.step s l)
end
theorem IsL.length : ∀ {vs : List V} {ds : List D}, IsL K A H vs ds → vs.length = ds.length
  | _, _, .nil => rfl
  | _, _, .cons _ l => congrArg (· + 1) (IsL.length l)
theorem IsL.get : ∀ {vs : List V} {ds : List D} {i : Nat} {d : D}, IsL K A H vs ds → ds[i]? = some d → ∃ v, vs[i]? = some v ∧ Is K A H v d
  | _, _, _, _, .nil, e => by simp at e
  | _, _, 0, _, .cons h _, e => by simp at e; subst e; exact ⟨_, rfl, h⟩
  | _, _, i + 1, d, .cons _ t, e => by
    obtain ⟨v, h1, h2⟩ := IsL.get (i := i) (d := d) t (by simpa using e)
    exact ⟨v, by simpa using h1, h2⟩
theorem IsL.append : ∀ {vs ws : List V} {ds es : List D}, IsL K A H vs ds → IsL K A H ws es → IsL K A H (vs ++ ws) (ds ++ es)
  | _, _, _, _, .nil, y => y
  | _, _, _, _, .cons h t, y => .cons h (IsL.append t y)
theorem IsL.take : ∀ {vs : List V} {ds : List D} (n : Nat), IsL K A H vs ds → IsL K A H (vs.take n) (ds.take n)
  | _, _, 0, _ => .nil
  | _, _, _ + 1, .nil => .nil
  | _, _, n + 1, .cons h t => .cons h (IsL.take n t)
theorem IsL.drop : ∀ {vs : List V} {ds : List D} (n : Nat), IsL K A H vs ds → IsL K A H (vs.drop n) (ds.drop n)
  | _, _, 0, h => h
  | _, _, _ + 1, .nil => .nil
  | _, _, n + 1, .cons _ t => IsL.drop n t
theorem IsL.set {v : V} {d : D} (h : Is K A H v d) : ∀ {vs : List V} {ds : List D} (i : Nat), IsL K A H vs ds → IsL K A H (vs.set i v) (ds.set i d)
  | _, _, _, .nil => .nil
  | _, _, 0, .cons _ t => .cons h t
  | _, _, i + 1, .cons q t => .cons q (IsL.set h i t)
theorem IsL.reverse : ∀ {vs : List V} {ds : List D}, IsL K A H vs ds → IsL K A H vs.reverse ds.reverse
  | _, _, .nil => .nil
  | _, _, .cons h t => by
    rw [List.reverse_cons, List.reverse_cons]
    exact (IsL.reverse t).append (.cons h .nil)
theorem IsL.ints : ∀ (ns : List Int), IsL K A H (ns.map V.int) (ns.map D.int)
  | [] => .nil
  | n :: r => .cons (.int n) (IsL.ints r)
end
mutual
def D.py : D → PyData
  | .non => .none
  | .bl b => .bool b
  | .int i => .int i
  | .str x => .str x
  | .tup xs => .tuple (D.pyL xs)
  | .lst xs => .list (D.pyL xs)
  | _ => .none
def D.pyL : List D → List PyData
  | [] => []
  | d :: r => d.py :: D.pyL r
end
mutual
/-- no reference, no type, no dict within -/
def D.pl : D → Bool
  | .non | .bl _ | .int _ | .str _ => true
  | .tup xs | .lst xs => D.plL xs
  | _ => false
def D.plL : List D → Bool
  | [] => true
  | d :: r => d.pl && D.plL r
end
section
variable {K : PySem.W.Frag} {A : Addr → Prop} {H : Hp}
mutual
theorem Is.dp : ∀ {v : V} {d : D}, Is K A H v d → d.pl = true → Dp K H v d.py
  | _, _, .non, _ => .non
  | _, _, .bl b, _ => .bl b
  | _, _, .int i, _ => .int i
  | _, _, .str x, _ => .str x
  | _, _, .ty n, h => by simp [D.pl] at h
  | _, _, .ref a, h => by simp [D.pl] at h
  | _, _, .tup h l, e => .tup h.sq (IsL.dp l (by simpa [D.pl] using e))
  | _, _, .lst h l, e => .lst (SqL.of h.2) (IsL.dp l (by simpa [D.pl] using e))
  | _, _, .dic h l, e => by simp [D.pl] at e
theorem IsL.dp : ∀ {vs : List V} {ds : List D}, IsL K A H vs ds → D.plL ds = true → DpAll K H vs (D.pyL ds)
  | _, _, .nil, _ => .nil
  | _, _, .cons h l, e => by
    have e' : _ ∧ _ := Bool.and_eq_true_iff.mp (by simpa only [D.plL] using e)
    exact .cons (Is.dp h e'.1) (IsL.dp l e'.2)
end
end
/-- a slot's, or a field's, own list or dict -/
inductive OM where
  | lst (ds : List D) | dic (kvs : List (Key × D))
inductive Fl where
  | v (d : D) | o (m : OM)
inductive MO where
  | om (m : OM)
  | ins (C : Addr) (fs : List (Str × Fl))
  /-- a dict of the law's drawing: by what is true of it -/
  | st
  /-- a thing of any other kind -/
  | ho (o : HO)
  /-- a def's table of code objects: all that it tells bear the name q -/
  | tab (q : Str)
abbrev Mem := Addr → Option MO
def mup (M : Mem) (a : Addr) (o : MO) : Mem := fun b => if b = a then some o else M b
theorem mup_same {M : Mem} {a : Addr} {o : MO} : mup M a o a = some o := by unfold mup; rw [if_pos rfl]
theorem mup_ne {M : Mem} {a b : Addr} {o : MO} (h : b ≠ a) : mup M a o b = M b := by unfold mup; rw [if_neg h]
theorem mup_mup {M : Mem} {a : Addr} {o u : MO} : mup (mup M a o) a u = mup M a u := by
  funext b; unfold mup; split <;> rfl
theorem mup_self {M : Mem} {a : Addr} {o : MO} (h : M a = some o) : mup M a o = M := by
  funext b; unfold mup; split
  · rename_i e; rw [e, h]
  · rfl
/-- whose an address is: the i-th slot's, or a field's -/
inductive Ow where
  | slot (i : Nat) | fld (a : Addr) (f : Str)
abbrev Own := Addr → Option Ow
def Mut (M : Mem) (O : Own) (a : Addr) : Prop := M a ≠ none ∨ O a ≠ none
def Av (B : Addr → Prop) (M : Mem) (O : Own) (a : Addr) : Prop := B a ∨ Mut M O a
section
variable (K : PySem.W.Frag) (A : Addr → Prop) (H : Hp)
def OOk (a : Addr) : OM → Prop
  | .lst ds => ∃ vs, H a = some (.lst vs) ∧ IsL K A H vs ds
  | .dic kds => ∃ kvs, H a = some (.dK kvs) ∧ IsK K A H kvs kds
/-- the drawing's state, as its dict's entries -/
def stD (ns : List Int) (at_ rest turn more : Int) : List (Key × D) :=
  [(Sum.inr "cells", D.lst (ns.map D.int)), (Sum.inr "at", D.int at_), (Sum.inr "rest", D.int rest), (Sum.inr "turn", D.int turn), (Sum.inr "more", D.int more)]
def StOk (kvs : List (Key × D)) : Prop := ∃ (ns : List Int) (at_ rest turn more : Int), kvs = stD ns at_ rest turn more ∧
  ns.length ≤ 63 ∧ (∀ n ∈ ns, 0 ≤ n) ∧ 0 ≤ at_ ∧ 0 ≤ rest ∧ 0 ≤ turn ∧ 0 ≤ more ∧ more < 2147483648
inductive FlsOk (O : Own) (a : Addr) : List (Str × V) → List (Str × Fl) → Prop
  | nil : FlsOk O a [] []
  | v {f : Str} {v : V} {d : D} {vs : List (Str × V)} {fs : List (Str × Fl)} : Is K A H v d → FlsOk O a vs fs → FlsOk O a ((f, v) :: vs) ((f, .v d) :: fs)
  | o {f : Str} {l : Addr} {m : OM} {vs : List (Str × V)} {fs : List (Str × Fl)} : O l = some (.fld a f) → OOk K A H l m → FlsOk O a vs fs → FlsOk O a ((f, .ref l) :: vs) ((f, .o m) :: fs)
def TabOk (a : Addr) (q : Str) : Prop := ∃ ps : Array Value, H a = some (.tbl ps) ∧ TriplesOk ps.toList ∧ ∀ (pos : Pos) (cv : Value), codeAmong pos ps.toList = some cv → ∃ c, cv = .ref c ∧ H c = some (LamX.CodeO c q) ∧ ¬ A c
def MOk (O : Own) (a : Addr) : MO → Prop
  | .om m => OOk K A H a m
  | .ins C fs => ∃ dx vs, H a = some (.ins C dx vs) ∧ FlsOk K A H O a vs fs
  | .st => ∃ kds, StOk kds ∧ OOk K A H a (.dic kds)
  | .ho o => H a = some o
  | .tab q => TabOk A H a q
end
structure MemOk (K : PySem.W.Frag) (B : Addr → Prop) (H : Hp) (M : Mem) (O : Own) : Prop where
  mem : ∀ a mo, M a = some mo → ¬ B a ∧ O a = none ∧ MOk K (Av B M O) H O a mo
  own : ∀ a w, O a = some w → ¬ B a ∧ H a ≠ none
  btr : ∀ a, B a → H a ≠ none
/-- what a lambda that was handed in does: its address, where it was made, its reading -/
structure Lm where
  f : Addr
  U : Addr → Prop
  H : Hp
  tl : Mem → (D → Mem → Prop) → (Addr → Mem → Prop) → Prop
/-- a slot: unset, a value, an own list or dict, a list or tuple that is lent (true: a tuple), the script -/
inductive Sl where
  | n | v (d : D) | o (m : OM) | b (k : Bool) (ds : List D) | s (ns : List Int) | f (l : Lm)
/-- it stands, as long as nothing but what U names changes -/
def Lent (k : Bool) (K : PySem.W.Frag) (U : Addr → Prop) (H : Hp) (a : Addr) (vs : List V) : Prop := if k = true then TupAt K U H a vs else LstAt U H a vs
theorem Lent.step {k : Bool} {K : PySem.W.Frag} {U U' : Addr → Prop} {H H' : Hp} {a : Addr} {vs : List V} (s : Step U H U' H') (h : Lent k K U H a vs) : Lent k K U' H' a vs := by
  cases k with
  | true => exact TupAt.step s (show TupAt K U H a vs from h)
  | false => exact LstAt.step s (show LstAt U H a vs from h)
/-- the script -/
def ScrAt (K : PySem.W.Frag) (U : Addr → Prop) (H : Hp) (a : Addr) (ns : List Int) : Prop := (¬ U a ∧ Rd H a (.lst (ns.map V.int))) ∨ SqL K H0e a (ns.map V.int)
theorem ScrAt.step {K : PySem.W.Frag} {U U' : Addr → Prop} {H H' : Hp} {a : Addr} {vs : List Int} (s : Step U H U' H') (h : ScrAt K U H a vs) : ScrAt K U' H' a vs := by
  rcases h with ⟨n, r⟩ | h
  · exact .inl ⟨(Rd.step s n r).2, (Rd.step s n r).1⟩
  · exact .inr h
theorem ScrAt.sq {K : PySem.W.Frag} {U : Addr → Prop} {H : Hp} {a : Addr} {vs : List Int} (h : ScrAt K U H a vs) : SqL K H a (vs.map V.int) := by
  rcases h with ⟨_, h⟩ | h
  · exact .inl h
  · exact SqL.of0 h
def SlU (K : PySem.W.Frag) (A U : Addr → Prop) (O : Own) (H : Hp) (i : Nat) (x : Option V) : Sl → Prop
  | .n => True
  | .v d => ∃ v, x = some v ∧ Is K A H v d
  | .o m => ∃ a, x = some (.ref a) ∧ O a = some (.slot i) ∧ OOk K A H a m
  | .b k ds => ∃ a vs, x = some (.ref a) ∧ Lent k K U H a vs ∧ IsL K A H vs ds
  | .s ns => ∃ a, x = some (.ref a) ∧ ScrAt K U H a ns
  | .f l => x = some (.ref l.f) ∧ Step l.U l.H A H
abbrev SlOk (K : PySem.W.Frag) (B : Addr → Prop) (H : Hp) (M : Mem) (O : Own) (i : Nat) (x : Option V) (s : Sl) : Prop := SlU K (Av B M O) (Mut M O) O H i x s
/-- a def's frame over data: its slots, what is wanted of an exception (its class, the memory) -/
structure Fr where
  sl : List Sl
  ex : Addr → Mem → Prop
/-- at the entry of a def (or of a loop): the heap, what might change; what is wanted of an exception there -/
structure En where
  B : Addr → Prop
  H : Hp
  U : Addr → Prop
  X : Addr → Mem → Prop
  W : Addr → Hp → Prop
/-- an exception of an own class without fields -/
def xk (W : Addr → Hp → Prop) : XK := fun cls d H => ∃ C, cls = .ref C ∧ d = none ∧ W C H
structure Rep (X : Cx) (B : Addr → Prop) (E : En) (σ : L2.St) (H : Hp) (r : Fr) (M : Mem) (O : Own) : Prop where
  m : MemOk X.K B H M O
  len : σ.length = r.sl.length
  sl : ∀ i s, r.sl[i]? = some s → SlOk X.K B H M O i ((σ[i]?).getD none) s
  ent : Step E.U E.H (Mut M O) H
  sub : ∀ b, E.B b → B b
  exc : ∀ C M' H' O', MemOk X.K E.B H' M' O' → Step E.U E.H (Mut M' O') H' → E.X C M' → E.W C H'
  lk : Takes X (fun cls d _ H => xk E.W cls d H)
  xe : r.ex = E.X
theorem Rep.ps {X : Cx} {B : Addr → Prop} {E : En} {σ : L2.St} {H : Hp} {r : Fr} {M : Mem} {O : Own} (R : Rep X B E σ H r M O) : Passes (L2.CX X.prog X.w) X (xk E.W) := passes_call R.lk fun _ _ _ _ h => h
end DL
set_option Elab.async false
set_option linter.all false
set_option maxRecDepth 100000
namespace DL
open PySem PySem.Spec PyProof.Rows L2
section
variable {X : Cx} {K : PySem.W.Frag} {B : Addr → Prop} {E : En} {σ : L2.St} {H H' H'' : Hp} {r : Fr} {M M' M'' : Mem} {O O' O'' : Own} {p : Bool}
theorem step_same {A A' : Addr → Prop} (h : Same H H') (hA : ∀ a, ¬ A a → ¬ A' a) : Step A H A' H' := fun a o e n => ⟨h a o e, hA a n⟩
theorem OOk.same {A : Addr → Prop} (h : Same H H') {a : Addr} : ∀ {m : OM}, OOk K A H a m → OOk K A H' a m
  | .lst _, ⟨vs, e, l⟩ => ⟨vs, h _ _ e, l.step (step_same h fun _ n => n)⟩
  | .dic _, ⟨vs, e, l⟩ => ⟨vs, h _ _ e, l.step (step_same h fun _ n => n)⟩
theorem FlsOk.same {A : Addr → Prop} (h : Same H H') {a : Addr} : ∀ {vs : List (Str × V)} {fs : List (Str × Fl)}, FlsOk K A H O a vs fs → FlsOk K A H' O a vs fs
  | _, _, .nil => .nil
  | _, _, .v i t => .v (i.step (step_same h fun _ n => n)) (FlsOk.same h t)
  | _, _, .o e i t => .o e (i.same h) (FlsOk.same h t)
theorem MOk.same {A : Addr → Prop} (h : Same H H') {a : Addr} : ∀ {m : MO}, MOk K A H O a m → MOk K A H' O a m
  | .om m, x => OOk.same h x
  | .ins _ _, ⟨dx, vs, e, x⟩ => ⟨dx, vs, h _ _ e, x.same h⟩
  | .st, ⟨kds, s, x⟩ => ⟨kds, s, OOk.same h x⟩
  | .ho _, e => h _ _ e
  | .tab _, ⟨ps, e, t, q⟩ => ⟨ps, h _ _ e, t, fun pos cv z => let ⟨c, e1, e2, n⟩ := q pos cv z; ⟨c, e1, h _ _ e2, n⟩⟩
theorem MemOk.same (h : Same H H') (x : MemOk K B H M O) : MemOk K B H' M O where
  mem := fun a mo e => let ⟨h1, h2, h3⟩ := x.mem a mo e; ⟨h1, h2, h3.same h⟩
  own := fun a w e => let ⟨h1, h2⟩ := x.own a w e; ⟨h1, fun z => h2 (h.free z)⟩
  btr := fun a e z => x.btr a e (h.free z)
theorem SlOk.same (h : Same H H') {i : Nat} {x : Option V} : ∀ {s : Sl}, SlOk K B H M O i x s → SlOk K B H' M O i x s
  | .n, _ => trivial
  | .v d, ⟨v, e, q⟩ => ⟨v, e, q.step (step_same h fun _ n => n)⟩
  | .o m, ⟨a, e, o, q⟩ => ⟨a, e, o, q.same h⟩
  | .b k ds, ⟨a, vs, e, q, l⟩ => ⟨a, vs, e, q.step (step_same h fun _ n => n), l.step (step_same h fun _ n => n)⟩
  | .s ns, ⟨a, e, q⟩ => ⟨a, e, q.step (step_same h fun _ n => n)⟩
  | .f l, ⟨e, q⟩ => ⟨e, q.trans (step_same h fun _ n => n)⟩
theorem Rep.same (h : Same H H') (x : Rep X B E σ H r M O) : Rep X B E σ H' r M O where
  m := x.m.same h
  len := x.len
  sl := fun i s e => (x.sl i s e).same h
  ent := x.ent.trans (step_same h fun _ n => n)
  sub := x.sub
  exc := x.exc
  lk := x.lk
  xe := x.xe
/-- how the state has gone on; p: nothing that stood has changed -/
def Rl (p : Bool) (M : Mem) (O : Own) (H : Hp) (M' : Mem) (O' : Own) (H' : Hp) : Prop := (p = true → M' = M ∧ O' = O ∧ Same H H') ∧ Step (Mut M O) H (Mut M' O') H'
theorem Rl.refl : Rl p M O H M O H := ⟨fun _ => ⟨rfl, rfl, Same.refl _⟩, Step.refl _ _⟩
theorem Rl.of_same (h : Same H H') : Rl p M O H M O H' := ⟨fun _ => ⟨rfl, rfl, h⟩, step_same h fun _ n => n⟩
theorem Rl.trans (x : Rl p M O H M' O' H') (y : Rl p M' O' H' M'' O'' H'') : Rl p M O H M'' O'' H'' :=
  ⟨fun e => by
    obtain ⟨a1, a2, a3⟩ := x.1 e
    obtain ⟨b1, b2, b3⟩ := y.1 e
    exact ⟨b1.trans a1, b2.trans a2, a3.trans b3⟩, x.2.trans y.2⟩
theorem Rl.weak (x : Rl true M O H M' O' H') : Rl p M O H M' O' H' := ⟨fun _ => x.1 rfl, x.2⟩
theorem Rl.avs (x : Rl p M O H M' O' H') : Step (Av B M O) H (Av B M' O') H' := fun a o e n =>
  have n1 : ¬ B a := fun z => n (.inl z)
  have ⟨h1, h2⟩ := x.2 a o e fun z => n (.inr z)
  ⟨h1, fun z => z.elim n1 h2⟩
/-- shallow: the list or tuple itself may be one that changes later -/
def Is1 (K : PySem.W.Frag) (A : Addr → Prop) (H : Hp) (v : V) : D → Prop
  | .tup ds => ∃ a vs, v = .ref a ∧ TupK K H a vs ∧ IsL K A H vs ds
  | .lst ds => ∃ a vs, v = .ref a ∧ H a = some (.lst vs) ∧ IsL K A H vs ds
  | .dic kds => ∃ a kvs, v = .ref a ∧ Rd H a (.dK kvs) ∧ IsK K A H kvs kds
  | d => Is K A H v d
theorem Is.one {A : Addr → Prop} : ∀ {v : V} {d : D}, Is K A H v d → Is1 K A H v d
  | _, _, .non => .non
  | _, _, .bl b => .bl b
  | _, _, .int b => .int b
  | _, _, .str b => .str b
  | _, _, .ty b => .ty b
  | _, _, .ref b => .ref b
  | _, _, .tup h l => ⟨_, _, rfl, h.tk, l⟩
  | _, _, .lst h l => ⟨_, _, rfl, h.2, l⟩
  | _, _, .dic h l => ⟨_, _, rfl, .inr h.2, l⟩
theorem SqT.same {a : Addr} {vs : List V} (e : Same H H') (h : SqT K H a vs) : SqT K H' a vs := by
  rcases h with (h | ⟨o, h⟩) | h
  · exact .inl (.inl (e _ _ h))
  · exact .inl (.inr ⟨o, e _ _ h⟩)
  · exact .inr h
theorem Rd.same {a : Addr} {u : HO} (e : Same H H') (h : Rd H a u) : Rd H' a u := by
  rcases h with h | ⟨o, h⟩
  · exact .inl (e _ _ h)
  · exact .inr ⟨o, e _ _ h⟩
theorem TupK.same {a : Addr} {vs : List V} (e : Same H H') (h : TupK K H a vs) : TupK K H' a vs := by
  rcases h with ⟨o, d, h⟩ | h
  · exact .inl ⟨o, d, e _ _ h⟩
  · exact .inr h
theorem Is1.same {A : Addr → Prop} (e : Same H H') {v : V} : ∀ {d : D}, Is1 K A H v d → Is1 K A H' v d
  | .tup _, ⟨a, vs, h1, h2, h3⟩ => ⟨a, vs, h1, TupK.same e h2, h3.step (step_same e fun _ n => n)⟩
  | .lst _, ⟨a, vs, h1, h2, h3⟩ => ⟨a, vs, h1, e _ _ h2, h3.step (step_same e fun _ n => n)⟩
  | .dic _, ⟨a, vs, h1, h2, h3⟩ => ⟨a, vs, h1, Rd.same e h2, h3.step (step_same e fun _ n => n)⟩
  | .non, h => Is.step (step_same e fun _ n => n) h
  | .bl _, h => Is.step (step_same e fun _ n => n) h
  | .int _, h => Is.step (step_same e fun _ n => n) h
  | .str _, h => Is.step (step_same e fun _ n => n) h
  | .ty _, h => Is.step (step_same e fun _ n => n) h
  | .ref _, h => Is.step (step_same e fun _ n => n) h
def IsX (w : Bool) (K : PySem.W.Frag) (A : Addr → Prop) (H : Hp) (v : V) (d : D) : Prop := if w = true then Is K A H v d else Is1 K A H v d
theorem IsX.one {A : Addr → Prop} {w : Bool} {v : V} {d : D} (h : IsX w K A H v d) : Is1 K A H v d := by
  cases w with
  | true => exact Is.one h
  | false => exact h
/-- it is kept while the next one is reckoned -/
theorem IsX.next {w : Bool} {v : V} {d : D} (hw : (w || p) = true) (l : Rl p M O H M' O' H') (h : IsX w K (Av B M O) H v d) : IsX w K (Av B M' O') H' v d := by
  cases w with
  | true => exact Is.step l.avs h
  | false =>
    have hp : p = true := hw
    obtain ⟨e1, e2, e3⟩ := l.1 hp
    subst e1; subst e2
    exact Is1.same e3 h
end
abbrev GE := Fr → Mem → (D → Mem → Prop) → Prop
abbrev GT := Fr → Mem → (Bool → Mem → Prop) → Prop
def LE (w p : Bool) (X : Cx) (B : Addr → Prop) (E : En) (σ : L2.St) (r : Fr) (H : Hp) (M : Mem) (O : Own) (Q : VK) : D → Mem → Prop := fun d M' =>
  ∀ v H' O', Rep X B E σ H' r M' O' → Rl p M O H M' O' H' → IsX w X.K (Av B M' O') H' v d → Q v H'
def LT (p : Bool) (X : Cx) (B : Addr → Prop) (E : En) (σ : L2.St) (r : Fr) (H : Hp) (M : Mem) (O : Own) (Q : Bool → Hp → Prop) : Bool → Mem → Prop := fun b M' =>
  ∀ H' O', Rep X B E σ H' r M' O' → Rl p M O H M' O' H' → Q b H'
/-- w: the value is kept apart from what changes later; p: nothing that stood is changed -/
structure DE (w p : Bool) (X : Cx) (e : Expr) (g : GE) : Prop where
  run : PE X e (fun σ H Q => ∃ B E r M O, Rep X B E σ H r M O ∧ g r M (LE w p X B E σ r H M O Q))
  mono : ∀ r M Q Q', (∀ d M', Q d M' → Q' d M') → g r M Q → g r M Q'
structure DT (p : Bool) (X : Cx) (e : Expr) (g : GT) : Prop where
  run : PT X e (fun σ H Q => ∃ B E r M O, Rep X B E σ H r M O ∧ g r M (LT p X B E σ r H M O Q))
  mono : ∀ r M Q Q', (∀ d M', Q d M' → Q' d M') → g r M Q → g r M Q'
theorem peI {X : Cx} {e : Expr} {t t' : TE} (h : PE X e t) (i : ∀ σ H Q, t' σ H Q → t σ H Q) : PE X e t' := ⟨fun pins s σ H Q I q => h.run pins s σ H Q I (i σ H Q q)⟩
theorem ptI {X : Cx} {e : Expr} {t t' : TT} (h : PT X e t) (i : ∀ σ H Q, t' σ H Q → t σ H Q) : PT X e t' := ⟨fun pins s σ H Q I q => h.run pins s σ H Q I (i σ H Q q)⟩
theorem pwI {X : Cx} {e : Expr} {t t' : TT} (h : PW X e t) (i : ∀ σ H Q, t' σ H Q → t σ H Q) : PW X e t' := ⟨fun wh pins s σ H Q I q => h.run wh pins s σ H Q I (i σ H Q q)⟩
section
variable {X : Cx} {w w1 w2 p : Bool} {a b c e : Expr} {g ga gb gc : GE} {B : Addr → Prop} {E : En} {σ : L2.St} {H : Hp} {r : Fr} {M : Mem} {O : Own} {pos : Pos}
theorem DE.on (ha : DE w p X e g) (R : Rep X B E σ H r M O) {k : D → Mem → Prop} (h : g r M k) {Q : VK}
    (hk : ∀ d M1 v H1 O1, k d M1 → Rep X B E σ H1 r M1 O1 → Rl p M O H M1 O1 H1 → IsX w X.K (Av B M1 O1) H1 v d → Q v H1) :
    ∃ B E r M O, Rep X B E σ H r M O ∧ g r M (LE w p X B E σ r H M O Q) :=
  ⟨B, E, r, M, O, R, ha.mono r M _ _ (fun d M1 h1 v H1 O1 R1 l1 i1 => hk d M1 v H1 O1 h1 R1 l1 i1) h⟩
theorem DT.on {gt : GT} (ha : DT p X e gt) (R : Rep X B E σ H r M O) {k : Bool → Mem → Prop} (h : gt r M k) {Q : Bool → Hp → Prop}
    (hk : ∀ d M1 H1 O1, k d M1 → Rep X B E σ H1 r M1 O1 → Rl p M O H M1 O1 H1 → Q d H1) :
    ∃ B E r M O, Rep X B E σ H r M O ∧ gt r M (LT p X B E σ r H M O Q) :=
  ⟨B, E, r, M, O, R, ha.mono r M _ _ (fun d M1 h1 H1 O1 R1 l1 => hk d M1 H1 O1 h1 R1 l1) h⟩
/-- a pure one where any is asked -/
theorem DE.up (h : DE w true X e g) : DE w p X e g :=
  ⟨peI h.run fun σ H Q ⟨B, E, r, M, O, R, q⟩ => h.on R q fun d M1 v H1 O1 k R1 l i => k v H1 O1 R1 l.weak i, h.mono⟩
theorem DT.up {gt : GT} (h : DT true X e gt) : DT p X e gt :=
  ⟨ptI h.run fun σ H Q ⟨B, E, r, M, O, R, q⟩ => h.on R q fun d M1 H1 O1 k R1 l => k H1 O1 R1 l.weak, h.mono⟩
def gC (d : D) : GE := fun _ M Q => Q d M
theorem de_int {i j} : DE true p X (.Constant (.int i) j pos) (gC (.int i)) :=
  ⟨peI pe_int fun σ H Q ⟨B, E, r, M, O, R, q⟩ => q _ H O R Rl.refl (.int i), fun _ _ _ _ h q => h _ _ q⟩
theorem de_bl {i j} : DE true p X (.Constant (.bool i) j pos) (gC (.bl i)) :=
  ⟨peI pe_bl fun σ H Q ⟨B, E, r, M, O, R, q⟩ => q _ H O R Rl.refl (.bl i), fun _ _ _ _ h q => h _ _ q⟩
theorem de_non {j} : DE true p X (.Constant .none j pos) (gC .non) :=
  ⟨peI pe_non fun σ H Q ⟨B, E, r, M, O, R, q⟩ => q _ H O R Rl.refl .non, fun _ _ _ _ h q => h _ _ q⟩
theorem de_str {x j} : DE true p X (.Constant (.str x) j pos) (gC (.str x)) :=
  ⟨peI pe_str fun σ H Q ⟨B, E, r, M, O, R, q⟩ => q _ H O R Rl.refl (.str x), fun _ _ _ _ h q => h _ _ q⟩
theorem Rep.slot {i : Nat} {s : Sl} (R : Rep X B E σ H r M O) (h : r.sl[i]? = some s) : ∃ x, σ[i]? = some x ∧ SlOk X.K B H M O i x s := by
  have hi : i < r.sl.length := by
    obtain ⟨h1, _⟩ := List.getElem?_eq_some_iff.mp h
    exact h1
  have hs : i < σ.length := by rw [R.len]; exact hi
  refine ⟨σ[i], List.getElem?_eq_getElem hs, ?_⟩
  have q := R.sl i s h
  rw [List.getElem?_eq_getElem hs] at q
  exact q
/-- a name's value -/
def gV (i : Nat) : GE := fun r M Q => match r.sl[i]? with
  | some (.v d) => Q d M
  | _ => False
theorem de_var (i : Nat) {x : Str} (hN : X.N[i]? = some x := by rfl) (hv : Vis X.env.scope x := by first | exact Or.inl rfl | exact Or.inr (Or.inl rfl) | exact Or.inr (Or.inr rfl)) (hd : (x == ("__debug__" : Str)) = false := by decide)
    (hcd : (x == ("__classdict__" : Str)) = false := by decide) : DE true p X (.Name x pos) (gV i) := by
  refine ⟨peI (pe_var hN hv hd hcd) fun σ H Q ⟨B, E, r, M, O, R, q⟩ => ?_, fun r M Q Q' h q => ?_⟩
  · unfold gV at q
    split at q
    · rename_i d e
      obtain ⟨x, e1, v, e2, i1⟩ := R.slot e
      subst e2
      exact ⟨v, e1, q v H O R Rl.refl i1⟩
    · exact q.elim
  · unfold gV at q ⊢
    split at q
    · exact h _ _ q
    · exact q.elim
/-- .. shallow: an own list, a lent one too -/
def gVw (i : Nat) : GE := fun r M Q => match r.sl[i]? with
  | some (.v d) => Q d M
  | some (.o (.lst ds)) => Q (.lst ds) M
  | some (.o (.dic ds)) => Q (.dic ds) M
  | some (.b true ds) => Q (.tup ds) M
  | some (.b false ds) => Q (.lst ds) M
  | _ => False
/-- a module's constant that is a value of the written part, by what is known of it -/
theorem de_glob {x : Str} {v : V} {u : Value} {d : D} (hg : Gl X x) (hm : X.mg x = some u) (hr : RelV v u) (hi : ∀ A H, Is X.K A H v d) (hd : (x == ("__debug__" : Str)) = false := by decide) : DE true p X (.Name x pos) (gC d) :=
  ⟨peI (pe_glob hg hm hr hd) fun σ H Q ⟨B, E, r, M, O, R, q⟩ => q _ H O R Rl.refl (hi _ _), fun _ _ _ _ h q => h _ _ q⟩
end
end DL
set_option Elab.async false
set_option linter.all false
set_option maxRecDepth 100000
namespace DL
open PySem PySem.Spec PyProof.Rows L2
section
variable {X : Cx} {K : PySem.W.Frag} {B : Addr → Prop} {E : En} {σ : L2.St} {H H' : Hp} {r : Fr} {M : Mem} {O : Own} {p w : Bool} {Q : VK}
theorem OOk.there {A : Addr → Prop} {a : Addr} : ∀ {m : OM}, OOk K A H a m → H a ≠ none
  | .lst _, ⟨_, e, _⟩ => fun z => by rw [z] at e; cases e
  | .dic _, ⟨_, e, _⟩ => fun z => by rw [z] at e; cases e
theorem MOk.there {A : Addr → Prop} {a : Addr} : ∀ {m : MO}, MOk K A H O a m → H a ≠ none
  | .om _, x => OOk.there x
  | .ins _ _, ⟨_, _, e, _⟩ => fun z => by rw [z] at e; cases e
  | .st, ⟨_, _, x⟩ => OOk.there x
  | .ho _, e => fun z => by
    have e : H a = some _ := e
    rw [z] at e; cases e
  | .tab _, ⟨_, e, _⟩ => fun z => by rw [z] at e; cases e
theorem MemOk.fresh (x : MemOk K B H M O) {a : Addr} (n : H a = none) : ¬ Av B M O a := fun z => by
  rcases z with z | z | z
  · exact x.btr a z n
  · cases e : M a with
    | none => exact z e
    | some mo => exact MOk.there (x.mem a mo e).2.2 n
  · cases e : O a with
    | none => exact z e
    | some o => exact (x.own a o e).2 n
theorem same_upd {a : Addr} {o : HO} (n : H a = none) : Same H (upd H a o) := fun b u e => by
  rw [upd_ne (ne_of_none e n)]; exact e
theorem Is.up {A : Addr → Prop} (h : Same H H') {v : V} {d : D} (x : Is K A H v d) : Is K A H' v d := x.step (step_same h fun _ n => n)
theorem IsL.up {A : Addr → Prop} (h : Same H H') {v : List V} {d : List D} (x : IsL K A H v d) : IsL K A H' v d := x.step (step_same h fun _ n => n)
theorem IsX.of {A : Addr → Prop} {v : V} {d : D} (h : Is K A H v d) : IsX w K A H v d := by
  cases w with
  | true => exact h
  | false => exact h.one
theorem fin_tup (R : Rep X B E σ H r M O) {vs : List V} {ds : List D} (l : IsL X.K (Av B M O) H vs ds) (q : LE w p X B E σ r H M O Q (.tup ds) M) : Fz Q H vs := fun a o hd n =>
  q _ _ O (R.same (same_upd n)) (Rl.of_same (same_upd n)) (IsX.of (.tup (.inl ⟨R.m.fresh n, o, hd, upd_same⟩) (l.up (same_upd n))))
theorem fin_lst (R : Rep X B E σ H r M O) {vs : List V} {ds : List D} (l : IsL X.K (Av B M O) H vs ds) (q : LE w p X B E σ r H M O Q (.lst ds) M) : ∀ a, H a = none → Q (.ref a) (upd H a (.lst vs)) := fun a n =>
  q _ _ O (R.same (same_upd n)) (Rl.of_same (same_upd n)) (IsX.of (.lst ⟨R.m.fresh n, upd_same⟩ (l.up (same_upd n))))
theorem fin_v (R : Rep X B E σ H r M O) {v : V} {d : D} (l : Is X.K (Av B M O) H v d) (q : LE w p X B E σ r H M O Q d M) : Q v H := q v H O R Rl.refl (IsX.of l)
theorem LE.go {M' : Mem} {O' : Own} {d : D} {M2 : Mem} (l : Rl p M O H M' O' H') (q : LE w p X B E σ r H M O Q d M2) : LE w p X B E σ r H' M' O' Q d M2 := fun v H2 O2 R2 l2 i2 => q v H2 O2 R2 (l.trans l2) i2
theorem LT.go {M' : Mem} {O' : Own} {d : Bool} {M2 : Mem} {Q : Bool → Hp → Prop} (l : Rl p M O H M' O' H') (q : LT p X B E σ r H M O Q d M2) : LT p X B E σ r H' M' O' Q d M2 := fun H2 O2 R2 l2 => q H2 O2 R2 (l.trans l2)
end
abbrev GO := D → D → Mem → (D → Mem → Prop) → Prop
abbrev GU := D → Mem → (D → Mem → Prop) → Prop
/-- a two-place operation over data -/
structure OpD (X : Cx) (f : Value → Value → Sem Value) (go : GO) : Prop where
  ex : ∃ rr : R2, OpR X f rr ∧ ∀ B E σ H r M O x y d e Q, Rep X B E σ H r M O → Is1 X.K (Av B M O) H x d → Is1 X.K (Av B M O) H y e → go d e M (LE true true X B E σ r H M O Q) → rr x y H Q
  mono : ∀ d e M Q Q', (∀ d M', Q d M' → Q' d M') → go d e M Q → go d e M Q'
/-- .. a one-place one -/
structure UnD (X : Cx) (f : Value → Sem Value) (go : GU) : Prop where
  ex : ∃ rr : V → Hp → VK → Prop, UnR X f rr ∧ ∀ B E σ H r M O x d Q, Rep X B E σ H r M O → Is1 X.K (Av B M O) H x d → go d M (LE true true X B E σ r H M O Q) → rr x H Q
  mono : ∀ d M Q Q', (∀ d M', Q d M' → Q' d M') → go d M Q → go d M Q'
def g2 (go : GO) (ga gb : GE) : GE := fun r M Q => ga r M fun d M1 => gb r M1 fun e M2 => go d e M2 Q
def g1 (go : GU) (ga : GE) : GE := fun r M Q => ga r M fun d M1 => go d M1 Q
def gB (g : GE) : GT := fun r M Q => g r M fun d M' => match d with
  | .bl b => Q b M'
  | _ => False
section
variable {X : Cx} {w w1 w2 p : Bool} {a b c e : Expr} {g ga gb gc : GE} {B : Addr → Prop} {E : En} {σ : L2.St} {H : Hp} {r : Fr} {M : Mem} {O : Own} {pos : Pos} {go : GO} {gu : GU}
theorem g2_mono (ha : ∀ r M Q Q', (∀ d M', Q d M' → Q' d M') → ga r M Q → ga r M Q') (hb : ∀ r M Q Q', (∀ d M', Q d M' → Q' d M') → gb r M Q → gb r M Q') (ho : ∀ d e M Q Q', (∀ d M', Q d M' → Q' d M') → go d e M Q → go d e M Q') :
    ∀ r M Q Q', (∀ d M', Q d M' → Q' d M') → g2 go ga gb r M Q → g2 go ga gb r M Q' := fun r M Q Q' h q => ha r M _ _ (fun d M1 q1 => hb r M1 _ _ (fun e M2 q2 => ho d e M2 _ _ h q2) q1) q
theorem de_op {op : Operator} (ho : OpD X (binaryOp op) go) (ha : DE w1 p X a ga) (hb : DE w2 p X b gb) (hw : (w1 || p) = true := by first | rfl | exact Bool.or_true _) : DE true p X (.BinOp a op b pos) (g2 go ga gb) := by
  obtain ⟨⟨rr, h1, h2⟩, hm⟩ := ho
  refine ⟨peI (pe_op h1 ha.run hb.run) fun σ H Q ⟨B, E, r, M, O, R, q⟩ => ?_, g2_mono ha.mono hb.mono hm⟩
  refine ha.on R q fun d M1 v H1 O1 k1 R1 l1 i1 => ?_
  refine hb.on R1 k1 fun e M2 u H2 O2 k2 R2 l2 i2 => ?_
  exact h2 B E σ H2 r M2 O2 v u d e Q R2 (IsX.one (IsX.next hw l2 i1)) i2.one (hm _ _ _ _ _ (fun z M' q3 v3 H3 O3 R3 l3 i3 => q3 v3 H3 O3 R3 ((l1.trans l2).trans l3.weak) i3) k2)
theorem de_un {op : UnaryOp} (ho : UnD X (unaryOp op) gu) (ha : DE w p X a ga) : DE true p X (.UnaryOp op a pos) (g1 gu ga) := by
  obtain ⟨⟨rr, h1, h2⟩, hm⟩ := ho
  refine ⟨peI (pe_un h1 ha.run) fun σ H Q ⟨B, E, r, M, O, R, q⟩ => ?_, fun r M Q Q' h q => ha.mono r M _ _ (fun d M1 q1 => hm d M1 _ _ h q1) q⟩
  refine ha.on R q fun d M1 v H1 O1 k1 R1 l1 i1 => ?_
  exact h2 B E σ H1 r M1 O1 v d Q R1 i1.one (hm _ _ _ _ (fun z M' q3 v3 H3 O3 R3 l3 i3 => q3 v3 H3 O3 R3 (l1.trans l3.weak) i3) k1)
theorem de_cmp {op : CmpOp} (ho : OpD X (compareOp op) go) (ha : DE w1 p X a ga) (hb : DE w2 p X b gb) (hm : behindInMarks op b = false := by first | exact nomark _ | with_unfolding_all rfl) (hw : (w1 || p) = true := by first | rfl | exact Bool.or_true _) :
    DE true p X (.Compare a [op] [b] pos) (g2 go ga gb) := by
  obtain ⟨⟨rr, h1, h2⟩, hmo⟩ := ho
  refine ⟨peI (pe_cmpR h1 ha.run hb.run hm) fun σ H Q ⟨B, E, r, M, O, R, q⟩ => ?_, g2_mono ha.mono hb.mono hmo⟩
  refine ha.on R q fun d M1 v H1 O1 k1 R1 l1 i1 => ?_
  refine hb.on R1 k1 fun e M2 u H2 O2 k2 R2 l2 i2 => ?_
  exact h2 B E σ H2 r M2 O2 v u d e Q R2 (IsX.one (IsX.next hw l2 i1)) i2.one (hmo _ _ _ _ _ (fun z M' q3 v3 H3 O3 R3 l3 i3 => q3 v3 H3 O3 R3 ((l1.trans l2).trans l3.weak) i3) k2)
theorem gB_mono (h : ∀ r M Q Q', (∀ d M', Q d M' → Q' d M') → g r M Q → g r M Q') : ∀ r M Q Q', (∀ d M', Q d M' → Q' d M') → gB g r M Q → gB g r M Q' := fun r M Q Q' hh q => h r M _ _ (fun d M1 q1 => by
  cases d with
  | bl b => exact hh _ _ q1
  | _ => exact q1) q
theorem dt_cmp {op : CmpOp} (ho : OpD X (compareOp op) go) (ha : DE w1 p X a ga) (hb : DE w2 p X b gb) (hm : behindInMarks op b = false := by first | exact nomark _ | with_unfolding_all rfl) (hw : (w1 || p) = true := by first | rfl | exact Bool.or_true _) :
    DT p X (.Compare a [op] [b] pos) (gB (g2 go ga gb)) := by
  obtain ⟨⟨rr, h1, h2⟩, hmo⟩ := ho
  refine ⟨ptI (pt_cmpR h1 ha.run hb.run hm) fun σ H Q ⟨B, E, r, M, O, R, q⟩ => ?_, gB_mono (g2_mono ha.mono hb.mono hmo)⟩
  refine ha.on R q fun d M1 v H1 O1 k1 R1 l1 i1 => ?_
  refine hb.on R1 k1 fun e M2 u H2 O2 k2 R2 l2 i2 => ?_
  refine h2 B E σ H2 r M2 O2 v u d e _ R2 (IsX.one (IsX.next hw l2 i1)) i2.one (hmo _ _ _ _ _ (fun z M' q3 v3 H3 O3 R3 l3 i3 => ?_) k2)
  have i3 : Is X.K (Av B M' O3) H3 v3 z := i3
  cases z with
  | bl b =>
    cases i3
    exact ⟨b, rfl, q3 H3 O3 R3 ((l1.trans l2).trans l3.weak)⟩
  | _ => exact q3.elim
def gAnd (t u : GT) : GT := fun r M Q => t r M fun c M1 => if c = true then u r M1 Q else Q false M1
def gOr (t u : GT) : GT := fun r M Q => t r M fun c M1 => if c = true then Q true M1 else u r M1 Q
def gNot (t : GT) : GT := fun r M Q => t r M fun c M1 => Q (!c) M1
variable {tA tB' gt gu' : GT} {rest : List Expr}
structure DW (p : Bool) (X : Cx) (e : Expr) (g : GT) : Prop where
  run : PW X e (fun σ H Q => ∃ B E r M O, Rep X B E σ H r M O ∧ g r M (LT p X B E σ r H M O Q))
  mono : ∀ r M Q Q', (∀ d M', Q d M' → Q' d M') → g r M Q → g r M Q'
theorem DW.dt (h : DW p X e gt) : DT p X e gt := ⟨PW.pt h.run, h.mono⟩
theorem dw_and1 (ha : DT p X a tA) : DW p X (.BoolOp .And [a] pos) tA := ⟨pw_and1 ha.run, ha.mono⟩
theorem dw_or1 (ha : DT p X a tA) : DW p X (.BoolOp .Or [a] pos) tA := ⟨pw_or1 ha.run, ha.mono⟩
theorem DW.on (ha : DW p X e gt) (R : Rep X B E σ H r M O) {k : Bool → Mem → Prop} (h : gt r M k) {Q : Bool → Hp → Prop}
    (hk : ∀ d M1 H1 O1, k d M1 → Rep X B E σ H1 r M1 O1 → Rl p M O H M1 O1 H1 → Q d H1) :
    ∃ B E r M O, Rep X B E σ H r M O ∧ gt r M (LT p X B E σ r H M O Q) :=
  ⟨B, E, r, M, O, R, ha.mono r M _ _ (fun d M1 h1 H1 O1 R1 l1 => hk d M1 H1 O1 h1 R1 l1) h⟩
theorem dw_and (ha : DT p X a tA) (hb : DW p X (.BoolOp .And (b :: rest) pos) tB') : DW p X (.BoolOp .And (a :: b :: rest) pos) (gAnd tA tB') := by
  refine ⟨pwI (pw_and ha.run hb.run) fun σ H Q ⟨B, E, r, M, O, R, q⟩ => ?_, fun r M Q Q' h q => ha.mono r M _ _ (fun c M1 q1 => ?_) q⟩
  · refine ha.on R q fun c M1 H1 O1 k1 R1 l1 => ?_
    cases c with
    | true =>
      rw [if_pos rfl] at k1 ⊢
      exact hb.on R1 k1 fun d M2 H2 O2 k2 R2 l2 => k2 H2 O2 R2 (l1.trans l2)
    | false =>
      rw [if_neg Bool.false_ne_true] at k1 ⊢
      exact k1 H1 O1 R1 l1
  · cases c with
    | true =>
      rw [if_pos rfl] at q1 ⊢
      exact hb.mono r M1 _ _ h q1
    | false =>
      rw [if_neg Bool.false_ne_true] at q1 ⊢
      exact h _ _ q1
theorem dw_or (ha : DT p X a tA) (hb : DW p X (.BoolOp .Or (b :: rest) pos) tB') : DW p X (.BoolOp .Or (a :: b :: rest) pos) (gOr tA tB') := by
  refine ⟨pwI (pw_or ha.run hb.run) fun σ H Q ⟨B, E, r, M, O, R, q⟩ => ?_, fun r M Q Q' h q => ha.mono r M _ _ (fun c M1 q1 => ?_) q⟩
  · refine ha.on R q fun c M1 H1 O1 k1 R1 l1 => ?_
    cases c with
    | false =>
      rw [if_neg Bool.false_ne_true] at k1 ⊢
      exact hb.on R1 k1 fun d M2 H2 O2 k2 R2 l2 => k2 H2 O2 R2 (l1.trans l2)
    | true =>
      rw [if_pos rfl] at k1 ⊢
      exact k1 H1 O1 R1 l1
  · cases c with
    | false =>
      rw [if_neg Bool.false_ne_true] at q1 ⊢
      exact hb.mono r M1 _ _ h q1
    | true =>
      rw [if_pos rfl] at q1 ⊢
      exact h _ _ q1
theorem dt_not (ha : DT p X a tA) : DT p X (.UnaryOp .Not a pos) (gNot tA) := by
  refine ⟨ptI (pt_not ha.run) fun σ H Q ⟨B, E, r, M, O, R, q⟩ => ?_, fun r M Q Q' h q => ha.mono r M _ _ (fun c M1 q1 => h _ _ q1) q⟩
  exact ha.on R q fun c M1 H1 O1 k1 R1 l1 => k1 H1 O1 R1 l1
/-- .. as values -/
def gAndV (ga gb : GE) : GE := fun r M Q => ga r M fun d M1 => match d with
  | .bl true => gb r M1 Q
  | .bl false => Q (.bl false) M1
  | _ => False
def gOrV (ga gb : GE) : GE := fun r M Q => ga r M fun d M1 => match d with
  | .bl true => Q (.bl true) M1
  | .bl false => gb r M1 Q
  | _ => False
def gNotV (ga : GE) : GE := fun r M Q => ga r M fun d M1 => match d with
  | .bl c => Q (.bl (!c)) M1
  | _ => False
theorem de_one {op} (h : DE w p X a ga) : DE w p X (.BoolOp op [a] pos) ga := ⟨pe_one h.run, h.mono⟩
theorem de_and (ha : DE true p X a ga) (hb : DE true p X (.BoolOp .And (b :: rest) pos) gb) : DE true p X (.BoolOp .And (a :: b :: rest) pos) (gAndV ga gb) := by
  refine ⟨peI (pe_and ha.run hb.run) fun σ H Q ⟨B, E, r, M, O, R, q⟩ => ?_, fun r M Q Q' h q => ha.mono r M _ _ (fun d M1 q1 => ?_) q⟩
  · refine ha.on R q fun d M1 v H1 O1 k1 R1 l1 i1 => ?_
    have i1 : Is X.K (Av B M1 O1) H1 v d := i1
    split at k1
    · cases i1
      refine ⟨true, rfl, ?_⟩
      rw [if_pos rfl]
      exact hb.on R1 k1 fun d M2 u H2 O2 k2 R2 l2 i2 => k2 u H2 O2 R2 (l1.trans l2) i2
    · cases i1
      refine ⟨false, rfl, ?_⟩
      rw [if_neg Bool.false_ne_true]
      exact k1 _ H1 O1 R1 l1 (Is.bl _)
    · exact k1.elim
  · split at q1
    · exact hb.mono r M1 _ _ h q1
    · exact h _ _ q1
    · exact q1.elim
theorem de_not (ha : DE true p X a ga) : DE true p X (.UnaryOp .Not a pos) (gNotV ga) := by
  refine ⟨peI (pe_not ha.run) fun σ H Q ⟨B, E, r, M, O, R, q⟩ => ?_, fun r M Q Q' h q => ha.mono r M _ _ (fun d M1 q1 => ?_) q⟩
  · refine ha.on R q fun d M1 v H1 O1 k1 R1 l1 i1 => ?_
    have i1 : Is X.K (Av B M1 O1) H1 v d := i1
    cases d with
    | bl c =>
      cases i1
      exact ⟨c, rfl, k1 _ H1 O1 R1 l1 (Is.bl _)⟩
    | _ => exact k1.elim
  · cases d with
    | bl c => exact h _ _ q1
    | _ => exact q1.elim
def gIf (t : GT) (ga gb : GE) : GE := fun r M Q => t r M fun c M1 => if c = true then ga r M1 Q else gb r M1 Q
theorem de_if (hc : DT p X c gt) (ha : DE w p X a ga) (hb : DE w p X b gb) : DE w p X (.IfExp c a b pos) (gIf gt ga gb) := by
  refine ⟨peI (pe_ifExp hc.run ha.run hb.run) fun σ H Q ⟨B, E, r, M, O, R, q⟩ => ?_, fun r M Q Q' h q => hc.mono r M _ _ (fun c M1 q1 => ?_) q⟩
  · refine hc.on R q fun c M1 H1 O1 k1 R1 l1 => ?_
    cases c with
    | true =>
      rw [if_pos rfl] at k1 ⊢
      exact ha.on R1 k1 fun d M2 u H2 O2 k2 R2 l2 i2 => k2 u H2 O2 R2 (l1.trans l2) i2
    | false =>
      rw [if_neg Bool.false_ne_true] at k1 ⊢
      exact hb.on R1 k1 fun d M2 u H2 O2 k2 R2 l2 i2 => k2 u H2 O2 R2 (l1.trans l2) i2
  · cases c with
    | true =>
      rw [if_pos rfl] at q1 ⊢
      exact ha.mono r M1 _ _ h q1
    | false =>
      rw [if_neg Bool.false_ne_true] at q1 ⊢
      exact hb.mono r M1 _ _ h q1
end
def valD (kds : List (Key × D)) (k : Key) : Option D := (kds.find? fun kv => decide (kv.1 = k)).map (·.2)
def putD (kds : List (Key × D)) (k : Key) (d : D) : List (Key × D) :=
  if (kds.any fun kv => decide (kv.1 = k)) = true then kds.map (fun kv => if kv.1 = k then (kv.1, d) else kv) else kds ++ [(k, d)]
def mergeD (kds more : List (Key × D)) : List (Key × D) := more.foldl (fun acc kv => putD acc kv.1 kv.2) kds
def keyD : D → Option Key
  | .int i => some (.inl i)
  | .str x => some (.inr x)
  | _ => none
section
variable {K : PySem.W.Frag} {A : Addr → Prop} {H : Hp}
theorem IsK.val {k : Key} : ∀ {kvs : List (Key × V)} {kds : List (Key × D)}, IsK K A H kvs kds → (∀ d, valD kds k = some d → ∃ v, valV kvs k = some v ∧ Is K A H v d) ∧ (valD kds k = none → valV kvs k = none)
  | _, _, .nil => ⟨fun d e => (by simp [valD] at e), fun _ => rfl⟩
  | _, _, .cons (k := j) (v := v) (d := d) (vs := vs) (ds := ds) h t => by
    obtain ⟨h1, h2⟩ := IsK.val (k := k) t
    by_cases e : j = k
    · subst e
      have e1 : valD ((j, d) :: ds) j = some d := by simp [valD, List.find?_cons]
      have e2 : valV ((j, v) :: vs) j = some v := valV_pos rfl
      rw [e1, e2]
      exact ⟨fun d' q => by cases q; exact ⟨v, rfl, h⟩, fun q => by cases q⟩
    · have e1 : valD ((j, d) :: ds) k = valD ds k := by simp [valD, List.find?_cons, e]
      have e2 : valV ((j, v) :: vs) k = valV vs k := valV_neg e
      rw [e1, e2]
      exact ⟨h1, h2⟩
theorem IsK.any {k : Key} : ∀ {kvs : List (Key × V)} {kds : List (Key × D)}, IsK K A H kvs kds → (kvs.any fun kv => decide (kv.1 = k)) = kds.any fun kv => decide (kv.1 = k)
  | _, _, .nil => rfl
  | _, _, .cons h t => by rw [List.any_cons, List.any_cons, IsK.any t]
theorem IsK.map {k : Key} {v : V} {d : D} (hv : Is K A H v d) : ∀ {kvs : List (Key × V)} {kds : List (Key × D)}, IsK K A H kvs kds → IsK K A H (kvs.map fun kv => if kv.1 = k then (kv.1, v) else kv) (kds.map fun kv => if kv.1 = k then (kv.1, d) else kv)
  | _, _, .nil => .nil
  | _, _, .cons (k := j) h t => by
    rw [List.map_cons, List.map_cons]
    by_cases e : j = k
    · subst e
      rw [if_pos rfl, if_pos rfl]
      exact .cons hv (IsK.map hv t)
    · rw [if_neg e, if_neg e]
      exact .cons h (IsK.map hv t)
theorem IsK.append : ∀ {kvs : List (Key × V)} {kds : List (Key × D)} {kvs' : List (Key × V)} {kds' : List (Key × D)}, IsK K A H kvs kds → IsK K A H kvs' kds' → IsK K A H (kvs ++ kvs') (kds ++ kds')
  | _, _, _, _, .nil, h => h
  | _, _, _, _, .cons h t, q => .cons h (IsK.append t q)
theorem IsK.put {k : Key} {v : V} {d : D} (hv : Is K A H v d) {kvs : List (Key × V)} {kds : List (Key × D)} (h : IsK K A H kvs kds) : IsK K A H (putK kvs k v) (putD kds k d) := by
  unfold putK putD
  rw [h.any (k := k)]
  split
  · exact h.map hv
  · exact h.append (.cons hv .nil)
theorem IsK.merge {more : List (Key × V)} {mds : List (Key × D)} (q : IsK K A H more mds) : ∀ {kvs : List (Key × V)} {kds : List (Key × D)}, IsK K A H kvs kds → IsK K A H (mergeK kvs more) (mergeD kds mds) :=
  match q with
  | .nil => fun h => h
  | .cons q t => fun h => IsK.merge t (h.put q)
theorem IsK.len : ∀ {kvs : List (Key × V)} {kds : List (Key × D)}, IsK K A H kvs kds → kvs.length = kds.length
  | _, _, .nil => rfl
  | _, _, .cons h t => congrArg (· + 1) (IsK.len t)
theorem keyD_kV {v : V} {d : D} {k : Key} (e : keyD d = some k) (h : Is K A H v d) : v = kV k := by
  cases h <;> simp only [keyD, Option.some.injEq, reduceCtorEq] at e
  · subst e; rfl
  · subst e; rfl
end
def kD : Key → D
  | .inl i => .int i
  | .inr x => .str x
theorem IsK.get {K : PySem.W.Frag} {A : Addr → Prop} {H : Hp} {kvs : List (Key × V)} {kds : List (Key × D)} (h : IsK K A H kvs kds) (k : Key) : (valV kvs k).isSome = (valD kds k).isSome := by
  obtain ⟨h1, h2⟩ := h.val (k := k)
  cases e : valD kds k with
  | none => rw [h2 e]; rfl
  | some d =>
    obtain ⟨v, e2, _⟩ := h1 d e
    rw [e2]; rfl
theorem is1_key {K : PySem.W.Frag} {A : Addr → Prop} {H : Hp} {v : V} {d : D} {k : Key} (e : keyD d = some k) (h : Is1 K A H v d) : v = kV k := by
  cases d <;> simp only [keyD, Option.some.injEq, reduceCtorEq] at e
  · subst e; cases h; rfl
  · subst e; cases h; rfl
end DL
set_option Elab.async false
set_option linter.all false
set_option maxRecDepth 100000
namespace DL
open PySem PySem.Spec PyProof.Rows L2
section
variable {K : PySem.W.Frag} {A : Addr → Prop} {H : Hp}
theorem is1_int {v : V} {i : Int} (h : Is1 K A H v (.int i)) : v = .int i := by
  have h : Is K A H v (.int i) := h
  cases h; rfl
theorem is1_bl {v : V} {i : Bool} (h : Is1 K A H v (.bl i)) : v = .bl i := by
  have h : Is K A H v (.bl i) := h
  cases h; rfl
theorem is1_str {v : V} {i : Str} (h : Is1 K A H v (.str i)) : v = .str i := by
  have h : Is K A H v (.str i) := h
  cases h; rfl
theorem is1_non {v : V} (h : Is1 K A H v .non) : v = .non := by
  have h : Is K A H v .non := h
  cases h; rfl
theorem is1_ref {v : V} {a : Addr} (h : Is1 K A H v (.ref a)) : v = .ref a := by
  have h : Is K A H v (.ref a) := h
  cases h; rfl
theorem Is1.dp : ∀ {v : V} {d : D}, Is1 K A H v d → d.pl = true → Dp K H v d.py
  | _, .non, h, e => Is.dp h e
  | _, .bl _, h, e => Is.dp h e
  | _, .int _, h, e => Is.dp h e
  | _, .str _, h, e => Is.dp h e
  | _, .ty _, h, e => by simp [D.pl] at e
  | _, .ref _, h, e => by simp [D.pl] at e
  | _, .tup _, ⟨a, vs, h1, h2, h3⟩, e => by
    subst h1
    exact .tup h2 (IsL.dp h3 (by simpa [D.pl] using e))
  | _, .lst _, ⟨a, vs, h1, h2, h3⟩, e => by
    subst h1
    exact .lst (SqL.of h2) (IsL.dp h3 (by simpa [D.pl] using e))
  | _, .dic _, h, e => by simp [D.pl] at e
end
/-- data of which == may be asked -/
def D.ok (d : D) : Bool := d.pl && SeqAt.shaped d.py
def D.eqv (d e : D) : Bool := PyData.eqv d.py e.py
/-- an operation on two ints alone -/
def goI (C : Int → Int → Prop) (f : Int → Int → D) : GO := fun d e M Q => match d, e with
  | .int i, .int j => C i j ∧ Q (f i j) M
  | _, _ => False
theorem goI_mono {C : Int → Int → Prop} {f : Int → Int → D} : ∀ d e M Q Q', (∀ d M', Q d M' → Q' d M') → goI C f d e M Q → goI C f d e M Q' := fun d e M Q Q' h q => by
  unfold goI at q ⊢
  split at q
  · exact ⟨q.1, h _ _ q.2⟩
  · exact q.elim
section
variable {X : Cx}
theorem opd_I {f : Value → Value → Sem Value} {C : Int → Int → Prop} {g : Int → Int → V} {g' : Int → Int → D} (h : OpR X f (rI C g)) (hg : ∀ A H i j, Is X.K A H (g i j) (g' i j)) : OpD X f (goI C g') where
  ex := ⟨_, h, fun B E σ H r M O x y d e Q R i1 i2 q => by
    unfold goI at q
    split at q
    · rename_i i j
      rw [is1_int i1, is1_int i2]
      exact ⟨i, j, rfl, rfl, q.1, fin_v R (hg _ _ _ _) q.2⟩
    · exact q.elim⟩
  mono := goI_mono
theorem rI_of0 {f : Value → Value → Sem Value} {g : Int → Int → V} (h : OpR X f (rI0 g)) : OpR X f (rI (fun _ _ => True) g) := by
  intro pins s σ H x y v u Q I rx ry ⟨i, j, e1, e2, _, q⟩
  exact h pins s σ H x y v u Q I rx ry ⟨i, j, e1, e2, q⟩
theorem od_sub : OpD X (binaryOp .Sub) (goI (fun _ _ => True) fun i j => .int (i - j)) := opd_I (rI_of0 op_sub) fun _ _ _ _ => .int _
theorem od_mod : OpD X (binaryOp .Mod) (goI (fun _ j => 0 < j) fun i j => .int (i % j)) := opd_I op_mod fun _ _ _ _ => .int _
theorem od_fdiv : OpD X (binaryOp .FloorDiv) (goI CDivW fun i j => .int (i / j)) := opd_I op_fdivW fun _ _ _ _ => .int _
theorem od_pow : OpD X (binaryOp .Pow) (goI CPow fun i j => .int (i ^ j.toNat)) := opd_I op_pow fun _ _ _ _ => .int _
theorem od_mulI : OpD X (binaryOp .Mult) (goI CMul fun i j => .int (i * j)) := opd_I op_mul fun _ _ _ _ => .int _
theorem od_le : OpD X (compareOp .LtE) (goI (fun _ _ => True) fun i j => .bl (decide (i ≤ j))) := opd_I (rI_of0 op_le) fun _ _ _ _ => .bl _
theorem od_gt : OpD X (compareOp .Gt) (goI (fun _ _ => True) fun i j => .bl (decide (j < i))) := opd_I (rI_of0 op_gt) fun _ _ _ _ => .bl _
theorem od_ge : OpD X (compareOp .GtE) (goI (fun _ _ => True) fun i j => .bl (decide (j ≤ i))) := opd_I (rI_of0 op_ge) fun _ _ _ _ => .bl _
def guI (f : Int → D) : GU := fun d M Q => match d with
  | .int i => Q (f i) M
  | _ => False
theorem ud_neg : UnD X (unaryOp .USub) (guI fun i => .int (-i)) where
  ex := ⟨_, un_neg, fun B E σ H r M O x d Q R i1 q => by
    unfold guI at q
    split at q
    · rename_i i
      rw [is1_int i1]
      exact ⟨i, rfl, fin_v R (.int _) q⟩
    · exact q.elim⟩
  mono := fun d M Q Q' h q => by
    unfold guI at q ⊢
    split at q
    · exact h _ _ q
    · exact q.elim
/-- + -/
def goAdd : GO := fun d e M Q => match d, e with
  | .int i, .int j => Q (.int (i + j)) M
  | .str x, .str y => x.length + y.length ≤ sizeLine ∧ Q (.str (x ++ y)) M
  | .tup xs, .tup ys => xs.length + ys.length ≤ sizeLine ∧ Q (.tup (xs ++ ys)) M
  | .lst xs, .lst ys => xs.length + ys.length ≤ sizeLine ∧ Q (.lst (xs ++ ys)) M
  | _, _ => False
end
end DL
namespace DL
open PySem PySem.Spec PyProof.Rows L2
section
variable {X : Cx}
theorem fin_cat {B : Addr → Prop} {E : En} {σ : L2.St} {H : Hp} {r : Fr} {M : Mem} {O : Own} {Q : VK} {a b : Addr} {vs ws : List V} {xs ys : List D} (R : Rep X B E σ H r M O) (s1 : SqT X.K H a vs) (s2 : SqT X.K H b ws)
    (t1 : vs = [] → Is X.K (Av B M O) H (.ref b) (.tup ys)) (t2 : ws = [] → Is X.K (Av B M O) H (.ref a) (.tup xs)) (l1 : IsL X.K (Av B M O) H vs xs) (l2 : IsL X.K (Av B M O) H ws ys) (hz : xs.length + ys.length ≤ sizeLine)
    (q : LE true true X B E σ r H M O Q (.tup (xs ++ ys)) M) : rCatF X.K (.ref a) (.ref b) H Q := by
  refine ⟨a, b, vs, ws, rfl, rfl, s1, s2, by rw [l1.length, l2.length]; exact hz, fun e => ?_, fun e1 e2 => ?_, fun _ _ => ?_⟩
  · have e' : xs = [] := by
      subst e
      cases l1
      rfl
    subst e'
    exact fin_v R (t1 e) q
  · have e' : ys = [] := by
      subst e2
      cases l2
      rfl
    subst e'
    rw [List.append_nil] at q
    exact fin_v R (t2 e2) q
  · exact fin_tup R (l1.append l2) q
/-- + of strong operands (a tuple plus nothing is the tuple itself) -/
theorem od_addT {B : Addr → Prop} {E : En} {σ : L2.St} {H : Hp} {r : Fr} {M : Mem} {O : Own} {x y : V} {d e : D} {Q : VK} (R : Rep X B E σ H r M O) (i1 : Is X.K (Av B M O) H x d) (i2 : Is X.K (Av B M O) H y e)
    (q : goAdd d e M (LE true true X B E σ r H M O Q)) : (rI0 (fun i j => V.int (i + j)) x y H Q) ∨ (∃ i j, x = .str i ∧ y = .str j ∧ i.length + j.length ≤ sizeLine ∧ Q (.str (i ++ j)) H) ∨ rCatF X.K x y H Q ∨ rCat x y H Q := by
  unfold goAdd at q
  split at q
  · cases i1; cases i2
    exact .inl ⟨_, _, rfl, rfl, fin_v R (.int _) q⟩
  · cases i1; cases i2
    exact .inr (.inl ⟨_, _, rfl, rfl, q.1, fin_v R (.str _) q.2⟩)
  · cases i1 with
    | tup h1 l1 =>
      cases i2 with
      | tup h2 l2 => exact .inr (.inr (.inl (fin_cat R h1.sq h2.sq (fun _ => .tup h2 l2) (fun _ => .tup h1 l1) l1 l2 q.1 q.2)))
  · cases i1 with
    | lst h1 l1 =>
      cases i2 with
      | lst h2 l2 => exact .inr (.inr (.inr ⟨_, _, _, _, rfl, rfl, h1.2, h2.2, by rw [l1.length, l2.length]; exact q.1, fin_lst R (l1.append l2) q.2⟩))
  · exact q.elim
theorem goAdd_mono : ∀ d e M Q Q', (∀ d M', Q d M' → Q' d M') → goAdd d e M Q → goAdd d e M Q' := fun d e M Q Q' h q => by
  unfold goAdd at q ⊢
  split at q
  · exact h _ _ q
  · exact ⟨q.1, h _ _ q.2⟩
  · exact ⟨q.1, h _ _ q.2⟩
  · exact ⟨q.1, h _ _ q.2⟩
  · exact q.elim
theorem op_addAll : OpR X (binaryOp .Add) (fun x y H Q => (rI0 (fun i j => V.int (i + j)) x y H Q) ∨ (∃ i j, x = .str i ∧ y = .str j ∧ i.length + j.length ≤ sizeLine ∧ Q (.str (i ++ j)) H) ∨ rCatF X.K x y H Q ∨ rCat x y H Q) :=
  op_add.or (op_add_str.or (op_catF.or op_cat))
variable {w1 w2 p : Bool} {a b : Expr} {ga gb : GE} {pos : Pos}
/-- a + b, both kept apart -/
theorem de_add (ha : DE true p X a ga) (hb : DE true p X b gb) : DE true p X (.BinOp a .Add b pos) (g2 goAdd ga gb) := by
  refine ⟨peI (pe_op op_addAll ha.run hb.run) fun σ H Q ⟨B, E, r, M, O, R, q⟩ => ?_, g2_mono ha.mono hb.mono goAdd_mono⟩
  refine ha.on R q fun d M1 v H1 O1 k1 R1 l1 i1 => ?_
  refine hb.on R1 k1 fun e M2 u H2 O2 k2 R2 l2 i2 => ?_
  exact od_addT R2 (IsX.next (w := true) rfl l2 i1) i2 (goAdd_mono _ _ _ _ _ (fun z M' q3 v3 H3 O3 R3 l3 i3 => q3 v3 H3 O3 R3 ((l1.trans l2).trans l3.weak) i3) k2)
/-- a + b of lists and numbers, lent ones too -/
def goAddW : GO := fun d e M Q => match d, e with
  | .int i, .int j => Q (.int (i + j)) M
  | .lst xs, .lst ys => xs.length + ys.length ≤ sizeLine ∧ Q (.lst (xs ++ ys)) M
  | _, _ => False
theorem ok_and {d : D} (h : d.ok = true) : d.pl = true ∧ SeqAt.shaped d.py = true := Bool.and_eq_true_iff.mp h
/-- flat things -/
def D.flat : D → Bool
  | .non | .bl _ | .int _ | .str _ => true
  | _ => false
theorem flat_V {K : PySem.W.Frag} {A : Addr → Prop} {H : Hp} {v : V} {d : D} (i : Is1 K A H v d) (h : d.flat = true) : flatV v = true := by
  cases d with
  | non => rw [is1_non i]; rfl
  | bl b => rw [is1_bl i]; rfl
  | int b => rw [is1_int i]; rfl
  | str b => rw [is1_str i]; rfl
  | _ => exact absurd (show false = true from h) Bool.false_ne_true
theorem eqV_eqv {K : PySem.W.Frag} {A : Addr → Prop} {H : Hp} {v u : V} {d e : D} (i : Is1 K A H v d) (j : Is1 K A H u e) (h : d.flat = true) (h' : e.flat = true) : eqV v u = d.eqv e := by
  unfold D.eqv
  cases d with
  | non =>
    rw [is1_non i]
    cases e with
    | non => rw [is1_non j]; simp [eqV, D.py, PyData.eqv]
    | bl b => rw [is1_bl j]; simp [eqV, D.py, PyData.eqv]
    | int b => rw [is1_int j]; simp [eqV, D.py, PyData.eqv]
    | str b => rw [is1_str j]; simp [eqV, D.py, PyData.eqv]
    | _ => exact absurd (show false = true from h') Bool.false_ne_true
  | bl c =>
    rw [is1_bl i]
    cases e with
    | non => rw [is1_non j]; simp [eqV, D.py, PyData.eqv]
    | bl b => rw [is1_bl j]; simp [eqV, D.py, PyData.eqv]
    | int b => rw [is1_int j]; simp [eqV, D.py, PyData.eqv]
    | str b => rw [is1_str j]; simp [eqV, D.py, PyData.eqv]
    | _ => exact absurd (show false = true from h') Bool.false_ne_true
  | int c =>
    rw [is1_int i]
    cases e with
    | non => rw [is1_non j]; simp [eqV, D.py, PyData.eqv]
    | bl b => rw [is1_bl j]; simp [eqV, D.py, PyData.eqv]
    | int b => rw [is1_int j]; simp [eqV, D.py, PyData.eqv]
    | str b => rw [is1_str j]; simp [eqV, D.py, PyData.eqv]
    | _ => exact absurd (show false = true from h') Bool.false_ne_true
  | str c =>
    rw [is1_str i]
    cases e with
    | non => rw [is1_non j]; simp [eqV, D.py, PyData.eqv]
    | bl b => rw [is1_bl j]; simp [eqV, D.py, PyData.eqv]
    | int b => rw [is1_int j]; simp [eqV, D.py, PyData.eqv]
    | str b => rw [is1_str j]; simp [eqV, D.py, PyData.eqv]
    | _ => exact absurd (show false = true from h') Bool.false_ne_true
  | _ => exact absurd (show false = true from h) Bool.false_ne_true
theorem flats_V {K : PySem.W.Frag} {A : Addr → Prop} {H : Hp} : ∀ {vs : List V} {ds : List D}, IsL K A H vs ds → ds.all D.flat = true → vs.all flatV = true
  | _, _, .nil, _ => rfl
  | _, _, .cons i l, h => by
    rw [List.all_cons, Bool.and_eq_true] at h ⊢
    exact ⟨flat_V i.one h.1, flats_V l h.2⟩
theorem inV_any {K : PySem.W.Frag} {A : Addr → Prop} {H : Hp} {v : V} {d : D} (i : Is1 K A H v d) (h : d.flat = true) : ∀ {vs : List V} {ds : List D}, IsL K A H vs ds → ds.all D.flat = true → inV v vs = ds.any fun z => z.eqv d
  | _, _, .nil, _ => rfl
  | _, _, .cons j l, hh => by
    rw [List.all_cons, Bool.and_eq_true] at hh
    have t := inV_any i h l hh.2
    unfold inV at t ⊢
    rw [List.any_cons, List.any_cons, t, eqV_eqv j.one i hh.1 h]
def goIn (neg : Bool) : GO := fun d e M Q => match e with
  | .tup ds => (d.flat = true ∧ ds.all D.flat = true) ∧ Q (.bl (xor neg (ds.any fun z => z.eqv d))) M
  | .lst ds => (d.ok = true ∧ D.ok (.lst ds) = true) ∧ Q (.bl (xor neg (ds.any fun z => z.eqv d))) M
  | .dic kds => ∃ k, keyD d = some k ∧ Q (.bl (xor neg (valD kds k).isSome)) M
  | _ => False
/-- k in d, a dict -/
def rInK (neg : Bool) : R2 := fun x y H Q => ∃ a o, y = V.ref a ∧ DGet H a x o ∧ Q (.bl (xor neg o.isSome)) H
theorem op_inK {X : Cx} (hu : X.A.units + 1 < cLine) : OpR X (compareOp .In) (rInK false) := by
  intro pins s σ H x y v u Q I rx ry h
  obtain ⟨a, o, rfl, g, q⟩ := h
  cases ry
  rw [Bool.false_xor] at q
  exact d_in hu I g rx fun s' I' => ⟨.bl o.isSome, H, I', rfl, q⟩
theorem op_notInK {X : Cx} (hu : X.A.units + 1 < cLine) : OpR X (compareOp .NotIn) (rInK true) := by
  intro pins s σ H x y v u Q I rx ry h
  obtain ⟨a, o, rfl, g, q⟩ := h
  cases ry
  rw [Bool.true_xor] at q
  exact d_notIn hu I g rx fun s' I' => ⟨.bl (!o.isSome), H, I', rfl, q⟩
theorem rInK_of {K : PySem.W.Frag} {A : Addr → Prop} {H : Hp} {neg : Bool} {x y : V} {d : D} {kds : List (Key × D)} {k : Key} {Q : VK} (i1 : Is1 K A H x d) (i2 : Is1 K A H y (.dic kds)) (e : keyD d = some k) (q : Q (.bl (xor neg (valD kds k).isSome)) H) : rInK neg x y H Q := by
  obtain ⟨a, kvs, rfl, h2, l2⟩ := i2
  have := is1_key e i1
  subst this
  exact ⟨a, valV kvs k, rfl, .inl ⟨kvs, k, h2, rfl, rfl⟩, by rw [l2.get k]; exact q⟩
theorem goIn_mono {neg : Bool} : ∀ d e M Q Q', (∀ d M', Q d M' → Q' d M') → goIn neg d e M Q → goIn neg d e M Q' := fun d e M Q Q' h q => by
  unfold goIn at q ⊢
  split at q
  · exact ⟨q.1, h _ _ q.2⟩
  · exact ⟨q.1, h _ _ q.2⟩
  · obtain ⟨k, e, q⟩ := q
    exact ⟨k, e, h _ _ q⟩
  · exact q.elim
theorem any_py (d : D) : ∀ ds : List D, ((D.pyL ds).any fun z => PyData.eqv z d.py) = ds.any fun z => z.eqv d
  | [] => rfl
  | e :: r => by
    rw [List.any_cons, ← any_py d r]
    simp only [D.pyL, List.any_cons, D.eqv]
theorem od_in (hu : X.A.units + 65 < cLine) : OpD X (compareOp .In) (goIn false) where
  ex := ⟨_, (op_in_seq.or (op_inD hu)).or (op_inK (by omega)), fun B E σ H r M O x y d e Q R i1 i2 q => by
    unfold goIn at q
    split at q
    · obtain ⟨a, vs, e2, h2, l2⟩ := i2
      refine .inl (.inl ⟨a, vs, e2, .inr h2, flat_V i1 q.1.1, flats_V l2 q.1.2, ?_⟩)
      have q2 := q.2
      rw [← inV_any i1 q.1.1 l2 q.1.2, Bool.false_xor] at q2
      exact fin_v R (.bl _) q2
    · rename_i ds
      refine .inl (.inr ⟨d.py, D.pyL ds, i1.dp (ok_and q.1.1).1, i2.dp (ok_and q.1.2).1, (ok_and q.1.1).2, (ok_and q.1.2).2, ?_⟩)
      have q2 := q.2
      rw [← any_py, Bool.false_xor] at q2
      exact fin_v R (.bl _) q2
    · obtain ⟨k, e, q⟩ := q
      exact .inr (rInK_of i1 i2 e (fin_v R (.bl _) q))
    · exact q.elim⟩
  mono := goIn_mono
theorem od_notin (hu : X.A.units + 65 < cLine) : OpD X (compareOp .NotIn) (goIn true) where
  ex := ⟨_, (op_notIn_seq.or (op_notInD hu)).or (op_notInK (by omega)), fun B E σ H r M O x y d e Q R i1 i2 q => by
    unfold goIn at q
    split at q
    · obtain ⟨a, vs, e2, h2, l2⟩ := i2
      refine .inl (.inl ⟨a, vs, e2, .inr h2, flat_V i1 q.1.1, flats_V l2 q.1.2, ?_⟩)
      have q2 := q.2
      rw [← inV_any i1 q.1.1 l2 q.1.2, Bool.true_xor] at q2
      exact fin_v R (.bl _) q2
    · rename_i ds
      refine .inl (.inr ⟨d.py, D.pyL ds, i1.dp (ok_and q.1.1).1, i2.dp (ok_and q.1.2).1, (ok_and q.1.1).2, (ok_and q.1.2).2, ?_⟩)
      have q2 := q.2
      rw [← any_py, Bool.true_xor] at q2
      exact fin_v R (.bl _) q2
    · obtain ⟨k, e, q⟩ := q
      exact .inr (rInK_of i1 i2 e (fin_v R (.bl _) q))
    · exact q.elim⟩
  mono := goIn_mono
/-- is None, is not None -/
def D.isN : D → Bool
  | .non => true
  | _ => false
def goIsN (neg : Bool) : GO := fun d e M Q => match e with
  | .non => Q (.bl (xor neg d.isN)) M
  | _ => False
theorem isN_dec {K : PySem.W.Frag} {A : Addr → Prop} {H : Hp} {v : V} {d : D} (i : Is1 K A H v d) : decide (v = .non) = d.isN := by
  cases d with
  | non => rw [is1_non i]; rfl
  | bl b => rw [is1_bl i]; rfl
  | int b => rw [is1_int i]; rfl
  | str b => rw [is1_str i]; rfl
  | ty b =>
    have i : Is K A H v (.ty b) := i
    cases i; rfl
  | ref b => rw [is1_ref i]; rfl
  | tup b => obtain ⟨_, _, rfl, _⟩ := i; rfl
  | lst b => obtain ⟨_, _, rfl, _⟩ := i; rfl
  | dic b => obtain ⟨_, _, rfl, _⟩ := i; rfl
theorem goIsN_mono {neg : Bool} : ∀ d e M Q Q', (∀ d M', Q d M' → Q' d M') → goIsN neg d e M Q → goIsN neg d e M Q' := fun d e M Q Q' h q => by
  unfold goIsN at q ⊢
  split at q
  · exact h _ _ q
  · exact q.elim
theorem od_isN : OpD X (compareOp .Is) (goIsN false) where
  ex := ⟨_, op_isN, fun B E σ H r M O x y d e Q R i1 i2 q => by
    unfold goIsN at q
    split at q
    · refine ⟨is1_non i2, ?_⟩
      rw [Bool.false_xor, ← isN_dec i1] at q
      exact fin_v R (.bl _) q
    · exact q.elim⟩
  mono := goIsN_mono
end
end DL
set_option Elab.async false
set_option linter.all false
set_option maxRecDepth 100000
namespace DL
open PySem PySem.Spec PyProof.Rows L2
abbrev GA := Fr → Mem → (List D → Mem → Prop) → Prop
def IsXL (w : Bool) (K : PySem.W.Frag) (A : Addr → Prop) (H : Hp) : List V → List D → Prop
  | [], [] => True
  | v :: vs, d :: ds => IsX w K A H v d ∧ IsXL w K A H vs ds
  | _, _ => False
theorem isXL_strong {K : PySem.W.Frag} {A : Addr → Prop} {H : Hp} : ∀ {vs : List V} {ds : List D}, IsXL true K A H vs ds → IsL K A H vs ds
  | [], [], _ => .nil
  | v :: vs, d :: ds, ⟨h, t⟩ => .cons h (isXL_strong t)
  | [], _ :: _, h => h.elim
  | _ :: _, [], h => h.elim
def LA (w p : Bool) (X : Cx) (B : Addr → Prop) (E : En) (σ : L2.St) (r : Fr) (H : Hp) (M : Mem) (O : Own) (Q : List V → Hp → Prop) : List D → Mem → Prop := fun ds M' =>
  ∀ vs H' O', Rep X B E σ H' r M' O' → Rl p M O H M' O' H' → IsXL w X.K (Av B M' O') H' vs ds → Q vs H'
structure DA (w p : Bool) (X : Cx) (es : List Expr) (g : GA) : Prop where
  run : PA X es (fun σ H Q => ∃ B E r M O, Rep X B E σ H r M O ∧ g r M (LA w p X B E σ r H M O Q))
  mono : ∀ r M Q Q', (∀ d M', Q d M' → Q' d M') → g r M Q → g r M Q'
theorem paI {X : Cx} {es : List Expr} {t t' : TA} (h : PA X es t) (i : ∀ σ H Q, t' σ H Q → t σ H Q) : PA X es t' := ⟨fun pos pins s σ H Q I q => h.run pos pins s σ H Q I (i σ H Q q)⟩
def gNil : GA := fun _ M Q => Q [] M
def gCons (ge : GE) (ga : GA) : GA := fun r M Q => ge r M fun d M1 => ga r M1 fun ds M2 => Q (d :: ds) M2
section
variable {X : Cx} {w w1 w2 p : Bool} {a b c e : Expr} {es : List Expr} {g ga gb gc : GE} {gs : GA} {B : Addr → Prop} {E : En} {σ : L2.St} {H : Hp} {r : Fr} {M : Mem} {O : Own} {pos : Pos}
theorem da_nil : DA w p X [] gNil := ⟨paI pa_nil fun σ H Q ⟨B, E, r, M, O, R, q⟩ => q [] H O R Rl.refl trivial, fun r M Q Q' h q => h _ _ q⟩
theorem DA.on (ha : DA w p X es gs) (R : Rep X B E σ H r M O) {k : List D → Mem → Prop} (h : gs r M k) {Q : List V → Hp → Prop}
    (hk : ∀ d M1 v H1 O1, k d M1 → Rep X B E σ H1 r M1 O1 → Rl p M O H M1 O1 H1 → IsXL w X.K (Av B M1 O1) H1 v d → Q v H1) :
    ∃ B E r M O, Rep X B E σ H r M O ∧ gs r M (LA w p X B E σ r H M O Q) :=
  ⟨B, E, r, M, O, R, ha.mono r M _ _ (fun d M1 h1 v H1 O1 R1 l1 i1 => hk d M1 v H1 O1 h1 R1 l1 i1) h⟩
theorem da_cons (ha : DE w p X e g) (hr : DA w p X es gs) (hw : (w || p) = true := by first | rfl | exact Bool.or_true _) (hs : starEach (e :: es) X.env = (false, eval e X.env) :: starEach es X.env := by rfl) : DA w p X (e :: es) (gCons g gs) := by
  refine ⟨paI (pa_cons ha.run hr.run hs) fun σ H Q ⟨B, E, r, M, O, R, q⟩ => ?_, fun r M Q Q' h q => ha.mono r M _ _ (fun d M1 q1 => hr.mono r M1 _ _ (fun ds M2 q2 => h _ _ q2) q1) q⟩
  refine ha.on R q fun d M1 v H1 O1 k1 R1 l1 i1 => ?_
  refine hr.on R1 k1 fun ds M2 vs H2 O2 k2 R2 l2 i2 => ?_
  exact k2 (v :: vs) H2 O2 R2 (l1.trans l2) ⟨IsX.next hw l2 i1, i2⟩
/-- the last argument, whatever it does -/
theorem da_one (ha : DE w p X e g) (hs : starEach [e] X.env = (false, eval e X.env) :: starEach [] X.env := by rfl) : DA w p X [e] (gCons g gNil) := by
  refine ⟨paI (pa_cons ha.run pa_nil hs) fun σ H Q ⟨B, E, r, M, O, R, q⟩ => ?_, fun r M Q Q' h q => ha.mono r M _ _ (fun d M1 q1 => h _ _ q1) q⟩
  exact ha.on R q fun d M1 v H1 O1 k1 R1 l1 i1 => k1 [v] H1 O1 R1 l1 ⟨i1, trivial⟩
def gTup (gs : GA) : GE := fun r M Q => gs r M fun ds M1 => Q (.tup ds) M1
def gLst (gs : GA) : GE := fun r M Q => gs r M fun ds M1 => Q (.lst ds) M1
theorem de_tup {x1} (hs : DA true p X es gs) (hz : ∀ r M Q, gs r M Q → gs r M fun ds M1 => ds.length ≤ sizeLine ∧ Q ds M1) : DE true p X (.Tuple es x1 pos) (gTup gs) := by
  refine ⟨peI (pe_tupF hs.run) fun σ H Q ⟨B, E, r, M, O, R, q⟩ => ?_, fun r M Q Q' h q => hs.mono r M _ _ (fun ds M1 q1 => h _ _ q1) q⟩
  refine hs.on R (hz _ _ _ q) fun ds M1 vs H1 O1 k1 R1 l1 i1 => ?_
  have i2 := isXL_strong i1
  exact ⟨by rw [i2.length]; exact k1.1, fin_tup R1 i2 (LE.go l1 k1.2)⟩
theorem de_lst (hs : DA true p X es gs) (hz : ∀ r M Q, gs r M Q → gs r M fun ds M1 => ds.length ≤ sizeLine ∧ Q ds M1) : DE true p X (.List es pos) (gLst gs) := by
  refine ⟨peI (pe_lst hs.run) fun σ H Q ⟨B, E, r, M, O, R, q⟩ => ?_, fun r M Q Q' h q => hs.mono r M _ _ (fun ds M1 q1 => h _ _ q1) q⟩
  refine hs.on R (hz _ _ _ q) fun ds M1 vs H1 O1 k1 R1 l1 i1 => ?_
  have i2 := isXL_strong i1
  exact ⟨by rw [i2.length]; exact k1.1, fin_lst R1 i2 (LE.go l1 k1.2)⟩
/-- how long a written list is -/
structure LenOf (n : Nat) (gs : GA) : Prop where
  h : ∀ r M Q, gs r M Q → gs r M fun ds M1 => ds.length = n ∧ Q ds M1
theorem len_nil : LenOf 0 gNil := ⟨fun r M Q q => ⟨rfl, q⟩⟩
theorem len_cons {n : Nat} (hm : ∀ r M Q Q', (∀ d M', Q d M' → Q' d M') → g r M Q → g r M Q') (hs : LenOf n gs) (hsm : ∀ r M Q Q', (∀ d M', Q d M' → Q' d M') → gs r M Q → gs r M Q') : LenOf (n + 1) (gCons g gs) :=
  ⟨fun r M Q q => hm r M _ _ (fun d M1 q1 => hsm r M1 _ _ (fun ds M2 q2 => ⟨congrArg (· + 1) q2.1, q2.2⟩) (hs.h _ _ _ q1)) q⟩
/-- an argument list with its length -/
structure DAn (w p : Bool) (X : Cx) (n : Nat) (es : List Expr) (gs : GA) : Prop where
  da : DA w p X es gs
  len : LenOf n gs
theorem an_nil : DAn w p X 0 [] gNil := ⟨da_nil, len_nil⟩
theorem an_cons {n : Nat} (ha : DE w p X e g) (hr : DAn w p X n es gs) (hw : (w || p) = true := by first | rfl | exact Bool.or_true _) (hs : starEach (e :: es) X.env = (false, eval e X.env) :: starEach es X.env := by rfl) : DAn w p X (n + 1) (e :: es) (gCons g gs) :=
  ⟨da_cons ha hr.da hw hs, len_cons ha.mono hr.len hr.da.mono⟩
theorem DAn.z {n : Nat} (h : DAn w p X n es gs) (hn : n ≤ sizeLine) : ∀ r M Q, gs r M Q → gs r M fun ds M1 => ds.length ≤ sizeLine ∧ Q ds M1 := fun r M Q q =>
  h.da.mono r M _ _ (fun ds M1 q1 => ⟨by rw [q1.1]; exact hn, q1.2⟩) (h.len.h _ _ _ q)
theorem de_tupN {x1} {n : Nat} (hs : DAn true p X n es gs) (hn : n ≤ sizeLine := by decide) : DE true p X (.Tuple es x1 pos) (gTup gs) := de_tup hs.da (hs.z hn)
theorem de_lstN {n : Nat} (hs : DAn true p X n es gs) (hn : n ≤ sizeLine := by decide) : DE true p X (.List es pos) (gLst gs) := de_lst hs.da (hs.z hn)
abbrev GC := List D → Mem → (D → Mem → Prop) → Prop
structure CaD (X : Cx) (f : Value) (gc : GC) : Prop where
  ex : ∃ rr : List V → Hp → VK → Prop, CallR X f rr ∧ ∀ B E σ H r M O xs ds Q, Rep X B E σ H r M O → IsXL false X.K (Av B M O) H xs ds → gc ds M (LE true true X B E σ r H M O Q) → rr xs H Q
  mono : ∀ d M Q Q', (∀ d M', Q d M' → Q' d M') → gc d M Q → gc d M Q'
theorem isXL_weak {w : Bool} {K : PySem.W.Frag} {A : Addr → Prop} {H : Hp} : ∀ {vs : List V} {ds : List D}, IsXL w K A H vs ds → IsXL false K A H vs ds
  | [], [], _ => trivial
  | v :: vs, d :: ds, ⟨h, t⟩ => ⟨h.one, isXL_weak t⟩
  | [], _ :: _, h => h.elim
  | _ :: _, [], h => h.elim
def gCa (gc : GC) (gs : GA) : GE := fun r M Q => gs r M fun ds M1 => gc ds M1 Q
variable {gcl : GC} {x : Str} {id T : String} {pf : Pos}
theorem de_callB (hc : CaD X (.builtin id) gcl) (hg : Gl X x) (hm : X.mg x = none) (hv : bootBuiltins x = some (.builtin id)) (ha : DA w p X (e :: es) gs) (hn : x ≠ "__name__" := by decide) (hdb : (x == ("__debug__" : Str)) = false := by decide)
    (he : starEach (e :: es) X.env = (false, eval e X.env) :: starEach es X.env := by rfl) (hpl : (backTo pos (starEach es X.env)).any (·.1) = false := by rfl) : DE true p X (.Call (.Name x pf) (e :: es) [] pos) (gCa gcl gs) := by
  obtain ⟨⟨rr, h1, h2⟩, hmo⟩ := hc
  refine ⟨peI (pe_callB h1 hg hm hv ha.run hn hdb he hpl) fun σ H Q ⟨B, E, r, M, O, R, q⟩ => ?_, fun r M Q Q' h q => ha.mono r M _ _ (fun ds M1 q1 => hmo _ _ _ _ h q1) q⟩
  refine ha.on R q fun ds M1 vs H1 O1 k1 R1 l1 i1 => ?_
  exact h2 B E σ H1 r M1 O1 vs ds Q R1 (isXL_weak i1) (hmo _ _ _ _ (fun z M' q3 v3 H3 O3 R3 l3 i3 => q3 v3 H3 O3 R3 (l1.trans l3.weak) i3) k1)
theorem de_callTy (hc : CaD X (.type T) gcl) (hg : Gl X x) (hm : X.mg x = none) (hv : bootBuiltins x = some (.type T)) (ha : DA w p X (e :: es) gs) (hn : x ≠ "__name__" := by decide) (hdb : (x == ("__debug__" : Str)) = false := by decide)
    (he : starEach (e :: es) X.env = (false, eval e X.env) :: starEach es X.env := by rfl) (hpl : (backTo pos (starEach es X.env)).any (·.1) = false := by rfl) : DE true p X (.Call (.Name x pf) (e :: es) [] pos) (gCa gcl gs) := by
  obtain ⟨⟨rr, h1, h2⟩, hmo⟩ := hc
  refine ⟨peI (pe_callTy h1 hg hm hv ha.run hn hdb he hpl) fun σ H Q ⟨B, E, r, M, O, R, q⟩ => ?_, fun r M Q Q' h q => ha.mono r M _ _ (fun ds M1 q1 => hmo _ _ _ _ h q1) q⟩
  refine ha.on R q fun ds M1 vs H1 O1 k1 R1 l1 i1 => ?_
  exact h2 B E σ H1 r M1 O1 vs ds Q R1 (isXL_weak i1) (hmo _ _ _ _ (fun z M' q3 v3 H3 O3 R3 l3 i3 => q3 v3 H3 O3 R3 (l1.trans l3.weak) i3) k1)
/-- a built-in class as a value -/
theorem de_ty {T : String} (hg : Gl X x) (hm : X.mg x = none) (hv : bootBuiltins x = some (.type T)) (hn : x ≠ "__name__" := by decide) (hdb : (x == ("__debug__" : Str)) = false := by decide) : DE true p X (.Name x pos) (gC (.ty T)) :=
  ⟨peI (pe_bltn hg hm hv (v := .ty T) rfl hn hdb) fun σ H Q ⟨B, E, r, M, O, R, q⟩ => q _ H O R Rl.refl (.ty T), fun _ _ _ _ h q => h _ _ q⟩
theorem isXL1 {K : PySem.W.Frag} {A : Addr → Prop} {H : Hp} {vs : List V} {d : D} (h : IsXL false K A H vs [d]) : ∃ v, vs = [v] ∧ Is1 K A H v d := by
  match vs, h with
  | [v], ⟨i, _⟩ => exact ⟨v, rfl, i⟩
theorem isXL2 {K : PySem.W.Frag} {A : Addr → Prop} {H : Hp} {vs : List V} {d e : D} (h : IsXL false K A H vs [d, e]) : ∃ v u, vs = [v, u] ∧ Is1 K A H v d ∧ Is1 K A H u e := by
  match vs, h with
  | [v, u], ⟨i, j, _⟩ => exact ⟨v, u, rfl, i, j⟩
/-- len -/
def gcLen : GC := fun ds M Q => match ds with
  | [.lst xs] => Q (.int xs.length) M
  | [.tup xs] => Q (.int xs.length) M
  | [.str x] => x.length ≤ sizeLine ∧ Q (.int x.length) M
  | [.dic kds] => Q (.int kds.length) M
  | _ => False
theorem call_lenK : CallR X (.builtin "len") (fun xs H Q => ∃ a kvs, xs = [V.ref a] ∧ Rd H a (.dK kvs) ∧ Q (.int kvs.length) H) := by
  intro pins s σ H xs us Q I r h
  obtain ⟨a, kvs, rfl, ha, q⟩ := h
  obtain ⟨u, rfl, ru⟩ := vals1 r
  cases ru
  exact d_len I ha fun t s' I' => ⟨.int kvs.length, H, I', ⟨t, rfl⟩, q⟩
theorem ca_len : CaD X (.builtin "len") gcLen where
  ex := ⟨_, call_len.or call_lenK, fun B E σ H r M O xs ds Q R ii q => by
    unfold gcLen at q
    split at q
    · obtain ⟨v, rfl, a, vs, rfl, h1, l1⟩ := isXL1 ii
      exact .inl ⟨.ref a, _, rfl, .inl ⟨vs, SqL.of h1, rfl⟩, by rw [l1.length]; exact fin_v R (.int _) q⟩
    · obtain ⟨v, rfl, a, vs, rfl, h1, l1⟩ := isXL1 ii
      exact .inl ⟨.ref a, _, rfl, .inr ⟨vs, h1, rfl⟩, by rw [l1.length]; exact fin_v R (.int _) q⟩
    · obtain ⟨v, rfl, i⟩ := isXL1 ii
      rw [is1_str i]
      exact .inl ⟨_, _, rfl, ⟨q.1, rfl⟩, fin_v R (.int _) q.2⟩
    · obtain ⟨v, rfl, a, vs, rfl, h1, l1⟩ := isXL1 ii
      exact .inr ⟨a, vs, rfl, h1, by rw [l1.len]; exact fin_v R (.int _) q⟩
    · exact q.elim⟩
  mono := fun d M Q Q' h q => by
    unfold gcLen at q ⊢
    split at q
    · exact h _ _ q
    · exact h _ _ q
    · exact ⟨q.1, h _ _ q.2⟩
    · exact h _ _ q
    · exact q.elim
/-- abs -/
def gcI1 (f : Int → D) : GC := fun ds M Q => match ds with
  | [.int i] => Q (f i) M
  | _ => False
theorem gcI1_mono {f : Int → D} : ∀ d M Q Q', (∀ d M', Q d M' → Q' d M') → gcI1 f d M Q → gcI1 f d M Q' := fun d M Q Q' h q => by
  unfold gcI1 at q ⊢
  split at q
  · exact h _ _ q
  · exact q.elim
theorem ca_abs : CaD X (.builtin "abs") (gcI1 fun i => .int (if i < 0 then -i else i)) where
  ex := ⟨_, call_abs, fun B E σ H r M O xs ds Q R ii q => by
    unfold gcI1 at q
    split at q
    · obtain ⟨v, rfl, i⟩ := isXL1 ii
      rw [is1_int i]
      exact ⟨_, rfl, fin_v R (.int _) q⟩
    · exact q.elim⟩
  mono := gcI1_mono
/-- int(n), int(flag) -/
def gcInt : GC := fun ds M Q => match ds with
  | [.int i] => Q (.int i) M
  | [.bl b] => Q (.int (if b then 1 else 0)) M
  | _ => False
theorem ca_int : CaD X (.type "int") gcInt where
  ex := ⟨_, call_int1, fun B E σ H r M O xs ds Q R ii q => by
    unfold gcInt at q
    split at q
    · obtain ⟨v, rfl, i⟩ := isXL1 ii
      rw [is1_int i]
      exact .inl ⟨_, rfl, fin_v R (.int _) q⟩
    · obtain ⟨v, rfl, i⟩ := isXL1 ii
      rw [is1_bl i]
      exact .inr ⟨_, rfl, fin_v R (.int _) q⟩
    · exact q.elim⟩
  mono := fun d M Q Q' h q => by
    unfold gcInt at q ⊢
    split at q
    · exact h _ _ q
    · exact h _ _ q
    · exact q.elim
/-- tuple(xs), list(xs) -/
def gcTuple : GC := fun ds M Q => match ds with
  | [.lst xs] => Q (.tup xs) M
  | _ => False
def gcList : GC := fun ds M Q => match ds with
  | [.lst xs] => Q (.lst xs) M
  | [.tup xs] => Q (.lst xs) M
  | _ => False
/-- tuple(t) of a tuple that is kept apart: itself -/
def gcTupleS : GC := fun ds M Q => match ds with
  | [.lst xs] => Q (.tup xs) M
  | [.tup xs] => Q (.tup xs) M
  | _ => False
theorem de_tupleS (hg : Gl X "tuple") (hm : X.mg "tuple" = none) (ha : DA true p X [e] gs) (he : starEach [e] X.env = (false, eval e X.env) :: starEach [] X.env := by rfl) (hpl : (backTo pos (starEach [] X.env)).any (·.1) = false := by rfl) : DE true p X (.Call (.Name "tuple" pf) [e] [] pos) (gCa gcTupleS gs) := by
  refine ⟨peI (pe_callTy call_tuple_ofF hg hm (by decide +kernel) ha.run (by decide) (by decide) he hpl) fun σ H Q ⟨B, E, r, M, O, R, q⟩ => ?_, fun r M Q Q' h q => ha.mono r M _ _ (fun ds M1 q1 => ?_) q⟩
  · refine ha.on R q fun ds M1 vs H1 O1 k1 R1 l1 i1 => ?_
    have i2 := isXL_strong i1
    unfold gcTupleS at k1
    split at k1
    · cases i2 with
      | cons i t =>
        cases t
        cases i with
        | lst h l => exact ⟨_, _, rfl, .inl ⟨SqL.of h.2, fin_tup R1 l (LE.go l1 k1)⟩⟩
    · cases i2 with
      | cons i t =>
        cases t
        cases i with
        | tup h l => exact ⟨_, _, rfl, .inr ⟨h.sq, fin_v R1 (.tup h l) (LE.go l1 k1)⟩⟩
    · exact k1.elim
  · unfold gcTupleS at q1 ⊢
    split at q1
    · exact h _ _ q1
    · exact h _ _ q1
    · exact q1.elim
/-- all, any of truths -/
def blsOf : List D → Option (List Bool)
  | [] => some []
  | .bl b :: r => (blsOf r).map (b :: ·)
  | _ => none
def intsOf : List D → Option (List Int)
  | [] => some []
  | .int b :: r => (intsOf r).map (b :: ·)
  | _ => none
theorem intsOf_map : ∀ bs : List Int, intsOf (bs.map D.int) = some bs
  | [] => rfl
  | b :: r => by simp [intsOf, intsOf_map r]
theorem of_intsOf {K : PySem.W.Frag} {A : Addr → Prop} {H : Hp} : ∀ {vs : List V} {ds : List D} {bs : List Int}, IsL K A H vs ds → intsOf ds = some bs → vs = bs.map V.int
  | _, _, _, .nil, h => by
    cases h; rfl
  | _, d :: r, bs, .cons i l, h => by
    cases d with
    | int b =>
      cases i
      simp only [intsOf, Option.map_eq_some_iff] at h
      obtain ⟨cs, h1, h2⟩ := h
      subst h2
      rw [of_intsOf l h1]; rfl
    | _ => simp [intsOf] at h
def gcBls (f : List Bool → Bool) : GC := fun ds M Q => match ds with
  | [.lst xs] => ∃ bs, blsOf xs = some bs ∧ Q (.bl (f bs)) M
  | _ => False
/-- sum, min, max of a list of ints -/
def gcSum : GC := fun ds M Q => match ds with
  | [.lst xs] => ∃ ns, intsOf xs = some ns ∧ Q (.int ns.sum) M
  | _ => False
/-- isinstance of data and a built-in class -/
def D.tyN : D → Option String
  | .non => some "NoneType"
  | .bl _ => some "bool"
  | .int _ => some "int"
  | .str _ => some "str"
  | .tup _ => some "tuple"
  | .lst _ => some "list"
  | .dic _ => some "dict"
  | _ => none
def isTy (t : String) (c : String) : Bool := t == c || (t == "bool" && c == "int")
def gcIsi : GC := fun ds M Q => match ds with
  | [d, .ty c] => ["int", "bool", "str", "tuple", "list", "dict"].contains c = true ∧ ∃ t, d.tyN = some t ∧ Q (.bl (isTy t c)) M
  | _ => False
theorem kit_tbl : ∀ t ∈ ["NoneType", "bool", "int", "str", "tuple", "list", "dict"], ∀ c ∈ ["int", "bool", "str", "tuple", "list", "dict"], kitB t c = some (isTy t c) := by decide +kernel
theorem tyX_of {K : PySem.W.Frag} {A : Addr → Prop} {H : Hp} {v : V} {t : String} : ∀ {d : D}, Is1 K A H v d → d.tyN = some t → TyX K H v (.type t) ∧ t ∈ ["NoneType", "bool", "int", "str", "tuple", "list", "dict"]
  | .non, i, e => by cases e; rw [is1_non i]; exact ⟨.base .non, by decide⟩
  | .bl _, i, e => by cases e; rw [is1_bl i]; exact ⟨.base (.bl _), by decide⟩
  | .int _, i, e => by cases e; rw [is1_int i]; exact ⟨.base (.int _), by decide⟩
  | .str _, i, e => by cases e; rw [is1_str i]; exact ⟨.base (.str _), by decide⟩
  | .ty _, i, e => by cases e
  | .ref _, i, e => by cases e
  | .lst _, ⟨a, vs, h1, h2, h3⟩, e => by cases e; rw [h1]; exact ⟨.base (.lst h2), by decide⟩
  | .dic _, ⟨a, vs, h1, h2, h3⟩, e => by
    cases e; rw [h1]
    rcases h2 with h2 | ⟨o, h2⟩
    · exact ⟨.base (.dK h2), by decide⟩
    · exact ⟨.fDict h2, by decide⟩
  | .tup _, ⟨a, vs, h1, h2, h3⟩, e => by
    cases e; rw [h1]
    refine ⟨?_, by decide⟩
    rcases h2.sq with (h2 | ⟨o, h2⟩) | ⟨o, its, n, hk, hc, _⟩
    · exact .base (.tup h2)
    · exact .fTuple h2
    · exact .kTuple hk hc
theorem ca_isi : CaD X (.builtin "isinstance") gcIsi where
  ex := ⟨_, call_isi, fun B E σ H r M O xs ds Q R ii q => by
    unfold gcIsi at q
    split at q
    · rename_i d c
      obtain ⟨v, u, rfl, i, j⟩ := isXL2 ii
      have j : Is X.K (Av B M O) H u (.ty c) := j
      cases j
      obtain ⟨hc, t, ht, q⟩ := q
      obtain ⟨hx, hm⟩ := tyX_of i ht
      exact ⟨v, .ty c, _, _, _, rfl, .ty c, hx, kit_ty (kit_tbl t hm c (by simpa using hc)), fin_v R (.bl _) q⟩
    · exact q.elim⟩
  mono := fun d M Q Q' h q => by
    unfold gcIsi at q ⊢
    split at q
    · obtain ⟨hc, t, ht, q⟩ := q
      exact ⟨hc, t, ht, h _ _ q⟩
    · exact q.elim
end
end DL
set_option Elab.async false
set_option linter.all false
set_option maxRecDepth 100000
namespace DL
open PySem PySem.Spec PyProof.Rows L2
section
variable {X : Cx} {w w1 w2 w3 p : Bool} {a b c e : Expr} {es : List Expr} {g ga gb gc : GE} {gs : GA} {B : Addr → Prop} {E : En} {σ : L2.St} {H : Hp} {r : Fr} {M : Mem} {O : Own} {pos : Pos}
theorem IsL.at {K : PySem.W.Frag} {A : Addr → Prop} {vs : List V} {ds : List D} {i : Int} {z : D} (l : IsL K A H vs ds) (h : atI ds i = some z) : ∃ v, atI vs i = some v ∧ Is K A H v z := by
  unfold atI at h ⊢
  rw [l.length]
  cases q : ixN ds.length i with
  | none => rw [q] at h; cases h
  | some j =>
    rw [q] at h
    exact l.get (show ds[j]? = some z from h)
/-- d[k], a dict -/
def dgetK (kds : List (Key × D)) (e : D) (M : Mem) (Q : D → Mem → Prop) : Prop := ∃ k v, keyD e = some k ∧ valD kds k = some v ∧ Q v M
def rIxK : R2 := fun x y H Q => ∃ a v, x = V.ref a ∧ DGet H a y (some v) ∧ Q v H
theorem ix_dict (hu : X.A.units + 1 < cLine) : IxR X rIxK := by
  intro value slice pins s σ H x y v u Q I rx ry h hs
  obtain ⟨a, z, rfl, g, q⟩ := h
  cases rx
  exact tail_any (dict_typeIs I g) PySem.F.slot_dict_getitem.lookup (d_getItem hu I g ry fun w' s3 I3 rw' => ⟨z, H, I3, rw', q⟩) hs
def goIx : GO := fun d e M Q => match d, e with
  | .lst xs, .int i => match atI xs i with
    | some z => Q z M
    | none => False
  | .tup xs, .int i => match atI xs i with
    | some z => Q z M
    | none => False
  | .str x, .int i => x.length ≤ sizeLine ∧ match atI x.cps.toList i with
    | some c => Q (.str ⟨#[c]⟩) M
    | none => False
  | .dic kds, e => dgetK kds e M Q
  | _, _ => False
theorem goIx_mono : ∀ d e M Q Q', (∀ d M', Q d M' → Q' d M') → goIx d e M Q → goIx d e M Q' := fun d e M Q Q' h q => by
  unfold goIx at q ⊢
  split at q
  · split at q
    · exact h _ _ q
    · exact q.elim
  · split at q
    · exact h _ _ q
    · exact q.elim
  · refine ⟨q.1, ?_⟩
    have q2 := q.2
    split at q2
    · exact h _ _ q2
    · exact q2.elim
  · obtain ⟨k, v, e1, e2, q⟩ := q
    exact ⟨k, v, e1, e2, h _ _ q⟩
  · exact q.elim
theorem de_ix (hu : X.A.units + 1 < cLine) (ha : DE w1 p X a ga) (hb : DE w2 p X b gb) (hs : PlainIx b := by intro _ _; rfl) (hw : (w1 || p) = true := by first | rfl | exact Bool.or_true _) : DE true p X (.Subscript a b pos) (g2 goIx ga gb) := by
  refine ⟨peI (pe_ix (ix_seq.or (ix_dict hu)) ha.run hb.run hs) fun σ H Q ⟨B, E, r, M, O, R, q⟩ => ?_, g2_mono ha.mono hb.mono goIx_mono⟩
  refine ha.on R q fun d M1 v H1 O1 k1 R1 l1 i1 => ?_
  refine hb.on R1 k1 fun e M2 u H2 O2 k2 R2 l2 i2 => ?_
  have j1 := IsX.one (IsX.next hw l2 i1)
  have j2 := i2.one
  have fin : ∀ {z v}, LE true p X B E σ r H M O Q z M2 → Is X.K (Av B M2 O2) H2 v z → Q v H2 := fun {z v} q3 i3 => q3 v H2 O2 R2 (l1.trans l2) i3
  unfold goIx at k2
  split at k2
  · obtain ⟨a, vs, rfl, h1, l1'⟩ := j1
    rw [is1_int j2]
    split at k2
    · rename_i z hz
      obtain ⟨x, hx, ix⟩ := l1'.at hz
      exact .inl (.inl ⟨a, vs, _, x, rfl, rfl, SqL.of h1, hx, fin k2 ix⟩)
    · exact k2.elim
  · obtain ⟨a, vs, rfl, h1, l1'⟩ := j1
    rw [is1_int j2]
    split at k2
    · rename_i z hz
      obtain ⟨x, hx, ix⟩ := l1'.at hz
      exact .inl (.inr (.inl ⟨a, vs, _, x, rfl, rfl, h1, hx, fin k2 ix⟩))
    · exact k2.elim
  · rw [is1_str j1, is1_int j2]
    obtain ⟨hl, k2⟩ := k2
    split at k2
    · rename_i z hz
      exact .inl (.inr (.inr ⟨_, _, _, rfl, rfl, hl, hz, fin k2 (.str _)⟩))
    · exact k2.elim
  · obtain ⟨a, vs, rfl, h1, l1'⟩ := j1
    obtain ⟨k, z, e1, e2, k2⟩ := k2
    have := is1_key e1 j2
    subst this
    obtain ⟨x, f1, f2⟩ := (l1'.val (k := k)).1 z e2
    exact .inr ⟨a, x, rfl, .inl ⟨vs, k, h1, rfl, f1.symm⟩, fin k2 f2⟩
  · exact k2.elim
abbrev GO' := Fr → Mem → (Option Int → Mem → Prop) → Prop
structure DO (p : Bool) (X : Cx) (e : Option Expr) (g : GO') : Prop where
  run : PO X e (fun σ H Q => ∃ B E r M O, Rep X B E σ H r M O ∧ g r M (fun o M' => ∀ H' O', Rep X B E σ H' r M' O' → Rl p M O H M' O' H' → Q o H'))
  mono : ∀ r M Q Q', (∀ d M', Q d M' → Q' d M') → g r M Q → g r M Q'
def gNoP : GO' := fun _ M Q => Q none M
def gPart (g : GE) : GO' := fun r M Q => g r M fun d M1 => match d with
  | .int i => Q (some i) M1
  | _ => False
theorem DO.on {o : Option Expr} {gO : GO'} (ha : DO p X o gO) (R : Rep X B E σ H r M O) {k : Option Int → Mem → Prop} (h : gO r M k) {Q : Option Int → Hp → Prop}
    (hk : ∀ d M1 H1 O1, k d M1 → Rep X B E σ H1 r M1 O1 → Rl p M O H M1 O1 H1 → Q d H1) :
    ∃ B E r M O, Rep X B E σ H r M O ∧ gO r M (fun o M' => ∀ H' O', Rep X B E σ H' r M' O' → Rl p M O H M' O' H' → Q o H') :=
  ⟨B, E, r, M, O, R, ha.mono r M _ _ (fun d M1 h1 H1 O1 R1 l1 => hk d M1 H1 O1 h1 R1 l1) h⟩
def cutD (xs : List D) (lo hi : Option Int) : List D := (xs.drop (HT.sIx xs.length 0 lo)).take (HT.sIx xs.length xs.length hi - HT.sIx xs.length 0 lo)
/-- of lists and texts, lent ones too; of tuples that are kept apart -/
def gsSl (w : Bool) (ga : GE) (gl gh : GO') : GE := fun r M Q => ga r M fun d M1 => gl r M1 fun lo M2 => gh r M2 fun hi M3 => match d with
  | .lst xs => Q (.lst (cutD xs lo hi)) M3
  | .tup xs => w = true ∧ Q (.tup (cutD xs lo hi)) M3
  | .str x => x.length ≤ sizeLine ∧ Q (.str (cutS x lo hi)) M3
  | _ => False
variable {go go' : GO}
def gCh (go go' : GO) (ga gb gc : GE) : GE := fun r M Q => ga r M fun d M1 => gb r M1 fun e M2 => go d e M2 fun z M3 => match z with
  | .bl true => gc r M3 fun f M4 => go' e f M4 Q
  | .bl false => Q (.bl false) M3
  | _ => False
theorem gCh_mono (ha : ∀ r M Q Q', (∀ d M', Q d M' → Q' d M') → ga r M Q → ga r M Q') (hb : ∀ r M Q Q', (∀ d M', Q d M' → Q' d M') → gb r M Q → gb r M Q') (hc : ∀ r M Q Q', (∀ d M', Q d M' → Q' d M') → gc r M Q → gc r M Q')
    (ho : ∀ d e M Q Q', (∀ d M', Q d M' → Q' d M') → go d e M Q → go d e M Q') (ho' : ∀ d e M Q Q', (∀ d M', Q d M' → Q' d M') → go' d e M Q → go' d e M Q') :
    ∀ r M Q Q', (∀ d M', Q d M' → Q' d M') → gCh go go' ga gb gc r M Q → gCh go go' ga gb gc r M Q' := fun r M Q Q' h q =>
  ha r M _ _ (fun d M1 q1 => hb r M1 _ _ (fun e M2 q2 => ho d e M2 _ _ (fun z M3 q3 => by
    split at q3
    · exact hc r M3 _ _ (fun f M4 q4 => ho' e f M4 _ _ h q4) q3
    · exact h _ _ q3
    · exact q3.elim) q2) q1) q
theorem de_chain {op op' : CmpOp} (ho : OpD X (compareOp op) go) (ho' : OpD X (compareOp op') go') (ha : DE true p X a ga) (hb : DE true p X b gb) (hc : DE w p X c gc) (hm : lastMarks [op, op'] [b, c] = false := by with_unfolding_all rfl) :
    DE true p X (.Compare a [op, op'] [b, c] pos) (gCh go go' ga gb gc) := by
  obtain ⟨⟨rr, h1, h2⟩, hmo⟩ := ho
  obtain ⟨⟨rr', h1', h2'⟩, hmo'⟩ := ho'
  refine ⟨peI (pe_chain h1 h1' ha.run hb.run hc.run hm) fun σ H Q ⟨B, E, r, M, O, R, q⟩ => ?_, gCh_mono ha.mono hb.mono hc.mono hmo hmo'⟩
  refine ha.on R q fun d M1 v H1 O1 k1 R1 l1 i1 => ?_
  refine hb.on R1 k1 fun e M2 u H2 O2 k2 R2 l2 i2 => ?_
  refine h2 B E σ H2 r M2 O2 v u d e _ R2 (IsX.one (IsX.next rfl l2 i1)) i2.one (hmo _ _ _ _ _ (fun z M3 q3 v3 H3 O3 R3 l3 i3 => ?_) k2)
  have i3 : Is X.K (Av B M3 O3) H3 v3 z := i3
  split at q3
  · cases i3
    refine ⟨true, rfl, ?_⟩
    rw [if_pos rfl]
    refine hc.on R3 q3 fun f M4 t H4 O4 k4 R4 l4 i4 => ?_
    exact h2' B E σ H4 r M4 O4 u t e f Q R4 (IsX.one (IsX.next (w := true) (p := p) rfl (l3.weak.trans l4) i2)) i4.one (hmo' _ _ _ _ _ (fun z' M5 q5 v5 H5 O5 R5 l5 i5 => q5 v5 H5 O5 R5 ((((l1.trans l2).trans l3.weak).trans l4).trans l5.weak) i5) k4)
  · cases i3
    refine ⟨false, rfl, ?_⟩
    rw [if_neg Bool.false_ne_true]
    exact q3 _ H3 O3 R3 ((l1.trans l2).trans l3.weak) (Is.bl _)
  · exact q3.elim
def gTru (ga : GE) : GT := fun r M Q => ga r M fun d M1 => match d with
  | .non => Q false M1
  | .bl b => Q b M1
  | .int i => Q (i != 0) M1
  | .str x => x.length ≤ sizeLine ∧ Q ((x.length : Int) != 0) M1
  | .lst xs => Q (!xs.isEmpty) M1
  | .tup xs => Q (!xs.isEmpty) M1
  | .dic xs => Q (!xs.isEmpty) M1
  | _ => False
theorem IsL.empty {K : PySem.W.Frag} {A : Addr → Prop} {vs : List V} {ds : List D} (l : IsL K A H vs ds) : vs.isEmpty = ds.isEmpty := by
  cases l <;> rfl
theorem IsK.empty {K : PySem.W.Frag} {A : Addr → Prop} {vs : List (Key × V)} {ds : List (Key × D)} (l : IsK K A H vs ds) : vs.isEmpty = ds.isEmpty := by
  cases l <;> rfl
/-- truth of any value, a dict that is never written again too -/
theorem tru_okD : TruR X (fun x H Q => ∃ k, (TruV X.K x H k ∨ ∃ p kvs, x = V.ref p ∧ Rd H p (.dK kvs) ∧ k = !kvs.isEmpty) ∧ Q k H) := by
  intro pins s σ H x v Q I rx h
  obtain ⟨k, e | ⟨p, kvs, rfl, e, rfl⟩, q⟩ := h
  · exact tru_ok pins s σ H x v Q I rx ⟨k, e, q⟩
  · cases rx
    exact d_truth I e fun s' I' => ⟨H, I', q⟩
theorem pt_truthD {ta : TE} (ha : PE X a ta) (he : ∀ whole, isTrue a X.env whole = (do let v ← whole; standAt a.pos; holding [v] (truthy v))) :
    PT X a (fun σ H Q => ta σ H fun x H' => ∃ k, (TruV X.K x H' k ∨ ∃ p kvs, x = V.ref p ∧ Rd H' p (.dK kvs) ∧ k = !kvs.isEmpty) ∧ Q k H') := by
  refine ⟨fun pins s σ H Q I h => ?_⟩
  exact isTrue_plain (thn (ha.run pins s σ H _ I h) fun v s1 ⟨x, H1, I1, r1, q1⟩ => tru_okD pins s1 σ H1 x v Q I1 r1 q1) (he _)
theorem dt_tru (ha : DE w p X a ga) (he : ∀ whole, isTrue a X.env whole = (do let v ← whole; standAt a.pos; holding [v] (truthy v)) := by intro _; rfl) : DT p X a (gTru ga) := by
  refine ⟨ptI (pt_truthD ha.run he) fun σ H Q ⟨B, E, r, M, O, R, q⟩ => ?_, fun r M Q Q' h q => ha.mono r M _ _ (fun d M1 q1 => ?_) q⟩
  · refine ha.on R q fun d M1 v H1 O1 k1 R1 l1 i1 => ?_
    have j := i1.one
    split at k1
    · rw [is1_non j]; exact ⟨_, .inl rfl, k1 H1 O1 R1 l1⟩
    · rw [is1_bl j]; exact ⟨_, .inl rfl, k1 H1 O1 R1 l1⟩
    · rw [is1_int j]; exact ⟨_, .inl rfl, k1 H1 O1 R1 l1⟩
    · rw [is1_str j]; exact ⟨_, .inl ⟨k1.1, rfl⟩, k1.2 H1 O1 R1 l1⟩
    · obtain ⟨a, vs, rfl, h1, l1'⟩ := j
      exact ⟨_, .inl (.inl ⟨vs, SqL.of h1, by rw [l1'.empty]⟩), k1 H1 O1 R1 l1⟩
    · obtain ⟨a, vs, rfl, h1, l1'⟩ := j
      exact ⟨_, .inl (.inr (.inl ⟨vs, h1, by rw [l1'.empty]⟩)), k1 H1 O1 R1 l1⟩
    · obtain ⟨a, vs, rfl, h1, l1'⟩ := j
      exact ⟨_, .inr ⟨_, vs, rfl, h1, by rw [l1'.empty]⟩, k1 H1 O1 R1 l1⟩
    · exact k1.elim
  · split at q1
    · exact h _ _ q1
    · exact h _ _ q1
    · exact h _ _ q1
    · exact ⟨q1.1, h _ _ q1.2⟩
    · exact h _ _ q1
    · exact h _ _ q1
    · exact h _ _ q1
    · exact q1.elim
end
structure DEnds where
  nx : Fr → Mem → Prop
  rt : D → Mem → Prop
  bk : Fr → Mem → Prop := fun _ _ => False
  ct : Fr → Mem → Prop := fun _ _ => False
abbrev GS := DEnds → Fr → Mem → Prop
def LS (X : Cx) (B : Addr → Prop) (E : En) (D : Ends) : DEnds where
  nx := fun r' M' => ∀ σ' H' O', Rep X B E σ' H' r' M' O' → D.nx σ' H'
  rt := fun d M' => ∀ v H' O', MemOk X.K B H' M' O' → Step E.U E.H (Mut M' O') H' → Is X.K (Av B M' O') H' v d → D.rt v H'
  bk := fun r' M' => ∀ σ' H' O', Rep X B E σ' H' r' M' O' → D.bk σ' H'
  ct := fun r' M' => ∀ σ' H' O', Rep X B E σ' H' r' M' O' → D.ct σ' H'
/-- less is wanted -/
structure DEnds.Le (D D' : DEnds) : Prop where
  nx : ∀ r M, D.nx r M → D'.nx r M
  rt : ∀ d M, D.rt d M → D'.rt d M
  bk : ∀ r M, D.bk r M → D'.bk r M
  ct : ∀ r M, D.ct r M → D'.ct r M
def MonoS (g : GS) : Prop := ∀ D D' r M, DEnds.Le D D' → g D r M → g D' r M
structure DS (X : Cx) (st : Stmt) (g : GS) : Prop where
  run : PS X st (fun D σ H => ∃ B E r M O, Rep X B E σ H r M O ∧ g (LS X B E D) r M)
  mono : MonoS g
structure DSs (X : Cx) (st : List Stmt) (g : GS) : Prop where
  run : PSs X st (fun D σ H => ∃ B E r M O, Rep X B E σ H r M O ∧ g (LS X B E D) r M)
  mono : MonoS g
theorem psI {X : Cx} {e : Stmt} {t t' : TS} (h : PS X e t) (i : ∀ D σ H, t' D σ H → t D σ H) : PS X e t' := ⟨fun pins s σ H D I q => h.run pins s σ H D I (i D σ H q)⟩
theorem pssI {X : Cx} {e : List Stmt} {t t' : TS} (h : PSs X e t) (i : ∀ D σ H, t' D σ H → t D σ H) : PSs X e t' := ⟨fun pins s σ H D I q => h.run pins s σ H D I (i D σ H q)⟩
section
variable {X : Cx} {st : Stmt} {rest : List Stmt} {g g' : GS} {e : Expr} {ge : GE} {w p : Bool} {pos : Pos} {B : Addr → Prop} {E : En} {σ : L2.St} {H : Hp} {r : Fr} {M : Mem} {O : Own}
def gNext : GS := fun D r M => D.nx r M
def gSeq (g g' : GS) : GS := fun D r M => g { D with nx := g' D } r M
theorem dss_nil : DSs X [] gNext := ⟨pssI pss_nil fun D σ H ⟨B, E, r, M, O, R, q⟩ => q σ H O R, fun D D' r M l q => l.nx _ _ q⟩
theorem dss_cons (h1 : DS X st g) (h2 : DSs X rest g') : DSs X (st :: rest) (gSeq g g') := by
  refine ⟨pssI (pss_cons h1.run h2.run) fun D σ H ⟨B, E, r, M, O, R, q⟩ => ⟨B, E, r, M, O, R, h1.mono { LS X B E D with nx := g' (LS X B E D) } _ r M ⟨fun r' M' q' σ' H' O' R' => ⟨B, E, r', M', O', R', q'⟩, fun _ _ q => q, fun _ _ q => q, fun _ _ q => q⟩ q⟩, fun D D' r M l q => ?_⟩
  exact h1.mono { D with nx := g' D } _ r M ⟨fun r' M' q' => h2.mono _ _ _ _ l q', l.rt, l.bk, l.ct⟩ q
theorem dss_one (h1 : DS X st g) : DSs X [st] g := ⟨pss_one h1.run, h1.mono⟩
def gDrop (ge : GE) : GS := fun D r M => ge r M fun _ M1 => D.nx r M1
theorem ds_expr (he : DE w p X e ge) (hs : swapsWith e none pos.line X.env = pure false := by rfl) : DS X (.Expr e pos) (gDrop ge) := by
  refine ⟨psI (ps_expr he.run hs) fun D σ H ⟨B, E, r, M, O, R, q⟩ => ?_, fun D D' r M l q => he.mono _ _ _ _ (fun d M1 q1 => l.nx _ _ q1) q⟩
  exact he.on R q fun d M1 v H1 O1 k1 R1 l1 i1 => k1 σ H1 O1 R1
def gRet (ge : GE) : GS := fun D r M => ge r M D.rt
theorem ds_ret (he : DE true p X e ge) : DS X (.Return (some e) pos) (gRet ge) := by
  refine ⟨psI (ps_ret he.run) fun D σ H ⟨B, E, r, M, O, R, q⟩ => ?_, fun D D' r M l q => he.mono _ _ _ _ (fun d M1 q1 => l.rt _ _ q1) q⟩
  exact he.on R q fun d M1 v H1 O1 k1 R1 l1 i1 => k1 v H1 O1 R1.m R1.ent i1
def gRetN : GS := fun D _ M => D.rt .non M
def gIfS (c : GT) (g g' : GS) : GS := fun D r M => c r M fun b M1 => if b = true then g D r M1 else g' D r M1
theorem ds_if {c : Expr} {a b : List Stmt} {gc : GT} (hc : DT p X c gc) (ha : DSs X a g) (hb : DSs X b g') : DS X (.If c a b pos) (gIfS gc g g') := by
  refine ⟨psI (ps_if hc.run ha.run hb.run) fun D σ H ⟨B, E, r, M, O, R, q⟩ => ?_, fun D D' r M l q => hc.mono _ _ _ _ (fun b M1 q1 => ?_) q⟩
  · refine hc.on R q fun b M1 H1 O1 k1 R1 l1 => ?_
    cases b with
    | true =>
      rw [if_pos rfl] at k1 ⊢
      exact ⟨B, E, r, M1, O1, R1, k1⟩
    | false =>
      rw [if_neg Bool.false_ne_true] at k1 ⊢
      exact ⟨B, E, r, M1, O1, R1, k1⟩
  · cases b with
    | true =>
      rw [if_pos rfl] at q1 ⊢
      exact ha.mono _ _ _ _ l q1
    | false =>
      rw [if_neg Bool.false_ne_true] at q1 ⊢
      exact hb.mono _ _ _ _ l q1
def Fr.set (r : Fr) (i : Nat) (s : Sl) : Fr := { r with sl := r.sl.set i s }
theorem Rep.setv (R : Rep X B E σ H r M O) {v : V} {d : D} (i : Nat) (h : Is X.K (Av B M O) H v d) : Rep X B E (σ.set i (some v)) H (r.set i (.v d)) M O where
  m := R.m
  len := by
    show (σ.set i (some v)).length = (r.sl.set i (.v d)).length
    rw [List.length_set, List.length_set]; exact R.len
  sl := fun j s e => by
    have e : (r.sl.set i (.v d))[j]? = some s := e
    by_cases hj : i = j
    · subst hj
      have hi : i < r.sl.length := by
        obtain ⟨h1, _⟩ := List.getElem?_eq_some_iff.mp e
        simpa using h1
      rw [List.getElem?_set_self hi] at e
      cases e
      rw [List.getElem?_set_self (by rw [R.len]; exact hi)]
      exact ⟨v, rfl, h⟩
    · rw [List.getElem?_set_ne hj] at e
      rw [List.getElem?_set_ne hj]
      exact R.sl j s e
  ent := R.ent
  sub := R.sub
  exc := R.exc
  lk := R.lk
  xe := R.xe
def gSet (i : Nat) (ge : GE) : GS := fun D r M => ge r M fun d M1 => D.nx (r.set i (.v d)) M1
theorem ds_set (i : Nat) {x : Str} {pos' : Pos} (hN : X.N.Nodup) (he : DE true p X e ge) (hi : X.N[i]? = some x := by rfl) (hx : Loc X.env.scope x := by first | exact Or.inl rfl | exact Or.inr rfl) (hs : swapsWith e (some (.Name x pos')) pos.line X.env = pure false := by rfl)
    (hf : X.fn x = true ∨ X.env.scope.names.lookup x = some .local := by first | exact .inl rfl | exact .inr rfl | assumption) : DS X (.Assign [.Name x pos'] e pos) (gSet i ge) := by
  refine ⟨psI (ps_set hN hi hx he.run hs hf) fun D σ H ⟨B, E, r, M, O, R, q⟩ => ?_, fun D D' r M l q => he.mono _ _ _ _ (fun d M1 q1 => l.nx _ _ q1) q⟩
  exact he.on R q fun d M1 v H1 O1 k1 R1 l1 i1 => k1 _ H1 O1 (R1.setv i i1)
end
end DL
set_option Elab.async false
set_option linter.all false
set_option maxRecDepth 100000
namespace DL
open PySem PySem.Spec PyProof.Rows L2
section
variable {X : Cx} {K : PySem.W.Frag} {B B' : Addr → Prop} {E : En} {σ : L2.St} {H H' : Hp} {r : Fr} {M : Mem} {O O' : Own} {p w : Bool} {a : Addr}
/-- the same heap, with other words for what may change -/
theorem step_id {A A' : Addr → Prop} (h : ∀ a, H a ≠ none → ¬ A a → ¬ A' a) : Step A H A' H := fun a o e n => ⟨e, h a (fun z => by rw [z] at e; cases e) n⟩
/-- what stands at A, H stands at A', H' -/
theorem OOk.stepS {A A' : Addr → Prop} (s : Step A H A' H') {l : Addr} (hl : ∀ o, H l = some o → H' l = some o) : ∀ {m : OM}, OOk K A H l m → OOk K A' H' l m
  | .lst _, ⟨vs, e, h⟩ => ⟨vs, hl _ e, h.step s⟩
  | .dic _, ⟨vs, e, h⟩ => ⟨vs, hl _ e, h.step s⟩
theorem FlsOk.stepS {A A' : Addr → Prop} (s : Step A H A' H') (ho : ∀ l f, O l = some (.fld a f) → O' l = some (.fld a f) ∧ ∀ o, H l = some o → H' l = some o) : ∀ {vs : List (Str × V)} {fs : List (Str × Fl)}, FlsOk K A H O a vs fs → FlsOk K A' H' O' a vs fs
  | _, _, .nil => .nil
  | _, _, .v i t => .v (i.step s) (FlsOk.stepS s ho t)
  | _, _, .o e i t => .o (ho _ _ e).1 (i.stepS s (ho _ _ e).2) (FlsOk.stepS s ho t)
theorem MOk.stepS {A A' : Addr → Prop} (s : Step A H A' H') (ha : ∀ o, H a = some o → H' a = some o) (ho : ∀ l f, O l = some (.fld a f) → O' l = some (.fld a f) ∧ ∀ o, H l = some o → H' l = some o) : ∀ {m : MO}, MOk K A H O a m → MOk K A' H' O' a m
  | .om m, x => OOk.stepS s ha x
  | .ins _ _, ⟨dx, vs, e, x⟩ => ⟨dx, vs, ha _ e, x.stepS s ho⟩
  | .st, ⟨kds, q, x⟩ => ⟨kds, q, OOk.stepS s ha x⟩
  | .ho _, e => ha _ e
  | .tab _, ⟨ps, e, t, q⟩ => ⟨ps, ha _ e, t, fun pos cv z => let ⟨c, e1, e2, n⟩ := q pos cv z; ⟨c, e1, (s c _ e2 n).1, (s c _ e2 n).2⟩⟩
theorem SlU.stepS {i : Nat} {x : Option V} {A A' U U' : Addr → Prop} (s : Step A H A' H') (s2 : Step U H U' H') : ∀ {sl : Sl}, (∀ l, O l = some (.slot i) → O' l = some (.slot i) ∧ ∀ o, H l = some o → H' l = some o) → SlU K A U O H i x sl → SlU K A' U' O' H' i x sl
  | .n, _, _ => trivial
  | .v d, _, ⟨v, e, q⟩ => ⟨v, e, q.step s⟩
  | .o m, ho, ⟨l, e, o, q⟩ => ⟨l, e, (ho l o).1, q.stepS s (ho l o).2⟩
  | .b k ds, _, ⟨l, vs, e, q, t⟩ => ⟨l, vs, e, q.step s2, t.step s⟩
  | .s ns, _, ⟨l, e, q⟩ => ⟨l, e, q.step s2⟩
  | .f l, _, ⟨e, q⟩ => ⟨e, q.trans s⟩
def Bp (B : Addr → Prop) (a : Addr) : Addr → Prop := fun b => B b ∨ b = a
theorem av_bp : Av (Bp B a) M O = fun b => Av B M O b ∨ b = a := by
  funext b
  unfold Av Bp
  apply propext
  constructor
  · rintro ((h | h) | h)
    · exact .inl (.inl h)
    · exact .inr h
    · exact .inl (.inr h)
  · rintro ((h | h) | h)
    · exact .inl (.inl h)
    · exact .inr h
    · exact .inl (.inr h)
def Up (U : Addr → Prop) (a : Addr) : Addr → Prop := fun b => U b ∨ b = a
theorem av_up : Av (Bp B a) M O = Up (Av B M O) a := av_bp
theorem step_up {A A' : Addr → Prop} (s : Step A H A' H') : Step (Up A a) H (Up A' a) H' := fun b o e n =>
  have h := s b o e fun z => n (.inl z)
  ⟨h.1, fun z => z.elim h.2 fun z => n (.inr z)⟩
theorem step_dn {A : Addr → Prop} : Step (Up A a) H A H := step_id fun b _ n z => n (.inl z)
/-- a new object at a: no one's yet -/
structure New (X : Cx) (B : Addr → Prop) (E : En) (σ : L2.St) (H : Hp) (r : Fr) (M : Mem) (O : Own) (a : Addr) : Prop where
  m : MemOk X.K (Bp B a) H M O
  len : σ.length = r.sl.length
  sl : ∀ i s, r.sl[i]? = some s → SlU X.K (Up (Av B M O) a) (Up (Mut M O) a) O H i ((σ[i]?).getD none) s
  ent : Step E.U E.H (Up (Mut M O) a) H
  sub : ∀ b, E.B b → B b
  exc : ∀ C M' H' O', MemOk X.K E.B H' M' O' → Step E.U E.H (Mut M' O') H' → E.X C M' → E.W C H'
  lk : Takes X (fun cls d _ H => xk E.W cls d H)
  xe : r.ex = E.X
  nav : ¬ Av B M O a
/-- a new object that nobody stands on -/
theorem New.of (R : Rep X B E σ H r M O) {o : HO} (n : H a = none) : New X B E σ (upd H a o) r M O a := by
  have g : ∀ {A : Addr → Prop}, Step A H (Up A a) (upd H a o) := fun {A} b u e nb => by
    have ne := ne_of_none e n
    exact ⟨by rw [upd_ne ne]; exact e, fun z => z.elim nb ne⟩
  have k : ∀ {b : Addr} (u : HO), H b = some u → upd H a o b = some u := fun u e => by rw [upd_ne (ne_of_none e n)]; exact e
  have na := R.m.fresh n
  refine ⟨⟨fun b mo e => ?_, fun b w e => ?_, fun b z => ?_⟩, R.len, fun i sl e => (R.sl i sl e).stepS g g fun l q => ⟨q, k⟩, R.ent.trans g, R.sub, R.exc, R.lk, R.xe, na⟩
  · obtain ⟨h1, h2, h3⟩ := R.m.mem b mo e
    refine ⟨fun z => z.elim h1 fun z => ?_, h2, ?_⟩
    · subst z
      exact na (.inr (.inl (by rw [e]; simp)))
    · rw [av_up]
      exact h3.stepS g k fun l f q => ⟨q, k⟩
  · obtain ⟨h1, h2⟩ := R.m.own b w e
    refine ⟨fun z => z.elim h1 fun z => ?_, fun z => h2 (Same.free (same_upd n) z)⟩
    subst z
    exact na (.inr (.inr (by rw [e]; simp)))
  · rcases z with z | z
    · exact fun q => R.m.btr b z (Same.free (same_upd n) q)
    · subst z
      rw [upd_same]
      exact fun q => nomatch q
/-- in the meantime: as if it were a caller's -/
theorem New.rep (N : New X B E σ H r M O a) : Rep X (Bp B a) E σ H r M O :=
  ⟨N.m, N.len, fun i sl e => by
    have q := N.sl i sl e
    rw [← av_up] at q
    exact q.stepS (Step.refl _ _) step_dn fun l q => ⟨q, fun _ e => e⟩, N.ent.trans step_dn, fun b z => .inl (N.sub b z), N.exc, N.lk, N.xe⟩
/-- behind an expression that was reckoned in the meantime -/
theorem New.next (N : New X B E σ H r M O a) {M' : Mem} {l : Rl p M O H M' O' H'} (R : Rep X (Bp B a) E σ H' r M' O') (ha : H a ≠ none) : New X B E σ H' r M' O' a := by
  have nav : ¬ Av B M' O' a := fun z => by
    rcases z with z | z
    · exact N.nav (.inl z)
    · cases e : H a with
      | none => exact ha e
      | some o => exact (l.2 a o e fun q => N.nav (.inr q)).2 z
  have sA : Step (Up (Av B M O) a) H (Up (Av B M' O') a) H' := step_up l.avs
  have sU : Step (Up (Mut M O) a) H (Up (Mut M' O') a) H' := step_up l.2
  refine ⟨R.m, R.len, fun i sl e => ?_, N.ent.trans sU, N.sub, N.exc, N.lk, N.xe, nav⟩
  have q := N.sl i sl e
  have q' : SlU X.K (Av (Bp B a) M' O') (Mut M' O') O' H' i ((σ[i]?).getD none) sl := R.sl i sl e
  rw [av_up] at q'
  cases sl with
  | n => trivial
  | v d => exact q'
  | o m => exact q'
  | b k ds =>
    obtain ⟨a, vs, e1, e2, e3⟩ := q
    exact ⟨a, vs, e1, e2.step sU, e3.step sA⟩
  | s ns =>
    obtain ⟨a, e1, e2⟩ := q
    exact ⟨a, e1, e2.step sU⟩
  | f l => exact ⟨q.1, q.2.trans sA⟩
/-- a is no one's -/
theorem New.any (N : New X B E σ H r M O a) : Rep X B E σ H r M O := by
  have s : Step (Up (Av B M O) a) H (Av B M O) H := step_dn
  refine ⟨⟨fun b mo e => ?_, fun b w e => ?_, fun b z => N.m.btr b (.inl z)⟩, N.len, fun i sl e => (N.sl i sl e).stepS s step_dn fun l q => ⟨q, fun _ e => e⟩, N.ent.trans step_dn, N.sub, N.exc, N.lk, N.xe⟩
  · obtain ⟨h1, h2, h3⟩ := N.m.mem b mo e
    rw [av_up] at h3
    exact ⟨fun z => h1 (.inl z), h2, h3.stepS s (fun _ e => e) fun l f q => ⟨q, fun _ e => e⟩⟩
  · obtain ⟨h1, h2⟩ := N.m.own b w e
    exact ⟨fun z => h1 (.inl z), h2⟩
def OM.d : OM → D
  | .lst ds => .lst ds
  | .dic ds => .dic ds
/-- .. and it is data -/
theorem New.is (N : New X B E σ H r M O a) {ds : List D} : OOk X.K (Up (Av B M O) a) H a (.lst ds) → Is X.K (Av B M O) H (.ref a) (.lst ds)
  | ⟨vs, e, l⟩ => .lst ⟨N.nav, e⟩ (l.step step_dn)
/-- a is the i-th slot's own -/
def osl (O : Own) (a : Addr) (i : Nat) : Own := fun b => if b = a then some (.slot i) else O b
theorem osl_same {i : Nat} : osl O a i a = some (.slot i) := by unfold osl; rw [if_pos rfl]
theorem osl_ne {i : Nat} {b : Addr} (h : b ≠ a) : osl O a i b = O b := by unfold osl; rw [if_neg h]
theorem mut_osl {i : Nat} : Mut M (osl O a i) = Up (Mut M O) a := by
  funext b
  apply propext
  unfold Mut osl Up
  by_cases h : b = a
  · simp [h, Mut]
  · simp [h, Mut]
theorem av_osl {i : Nat} : Av B M (osl O a i) = Up (Av B M O) a := by
  funext b
  apply propext
  unfold Av
  rw [mut_osl]
  show (B b ∨ Mut M O b ∨ b = a) ↔ ((B b ∨ Mut M O b) ∨ b = a)
  constructor
  · rintro (h | h | h)
    · exact .inl (.inl h)
    · exact .inl (.inr h)
    · exact .inr h
  · rintro ((h | h) | h)
    · exact .inl h
    · exact .inr (.inl h)
    · exact .inr (.inr h)
theorem OOk.there' {A : Addr → Prop} {m : OM} (h : OOk K A H a m) : H a ≠ none := by
  cases m with
  | lst ds => obtain ⟨vs, e, _⟩ := h; rw [e]; exact fun z => nomatch z
  | dic ds => obtain ⟨vs, e, _⟩ := h; rw [e]; exact fun z => nomatch z
theorem New.toSlot (N : New X B E σ H r M O a) (i : Nat) {m : OM} (hm : OOk X.K (Up (Av B M O) a) H a m) : Rep X B E (σ.set i (some (.ref a))) H (r.set i (.o m)) M (osl O a i) := by
  have nO : O a = none := by
    cases e : O a with
    | none => rfl
    | some w => exact (N.nav (.inr (.inr (by rw [e]; simp)))).elim
  have nM : M a = none := by
    cases e : M a with
    | none => rfl
    | some w => exact (N.nav (.inr (.inl (by rw [e]; simp)))).elim
  have hob : ∀ {b : Addr} {w : Ow}, O b = some w → osl O a i b = some w := fun {b w} e => by
    rw [osl_ne (fun z => by subst z; rw [nO] at e; cases e)]; exact e
  refine ⟨⟨fun b mo e => ?_, fun b w e => ?_, fun b z => N.m.btr b (.inl z)⟩, ?_, fun j sl e => ?_, ?_, N.sub, N.exc, N.lk, N.xe⟩
  · obtain ⟨h1, h2, h3⟩ := N.m.mem b mo e
    have nb : b ≠ a := fun z => by subst z; rw [nM] at e; cases e
    rw [av_up] at h3
    rw [av_osl, osl_ne nb]
    exact ⟨fun z => h1 (.inl z), h2, h3.stepS (Step.refl _ _) (fun _ e => e) fun l f q => ⟨hob q, fun _ e => e⟩⟩
  · by_cases hb : b = a
    · subst hb
      exact ⟨fun z => N.nav (.inl z), hm.there'⟩
    · rw [osl_ne hb] at e
      obtain ⟨h1, h2⟩ := N.m.own b w e
      exact ⟨fun z => h1 (.inl z), h2⟩
  · show (σ.set i _).length = (r.sl.set i _).length
    rw [List.length_set, List.length_set]; exact N.len
  · have e : (r.sl.set i (.o m))[j]? = some sl := e
    show SlU X.K (Av B M (osl O a i)) (Mut M (osl O a i)) (osl O a i) H j _ sl
    rw [av_osl, mut_osl]
    by_cases hj : i = j
    · subst hj
      have hi : i < r.sl.length := by
        obtain ⟨h1, _⟩ := List.getElem?_eq_some_iff.mp e
        simpa using h1
      rw [List.getElem?_set_self hi] at e
      cases e
      rw [List.getElem?_set_self (by rw [N.len]; exact hi)]
      exact ⟨a, rfl, osl_same, hm⟩
    · rw [List.getElem?_set_ne hj] at e
      rw [List.getElem?_set_ne hj]
      exact (N.sl j sl e).stepS (Step.refl _ _) (Step.refl _ _) fun l q => ⟨hob q, fun _ e => e⟩
  · rw [mut_osl]; exact N.ent
end
end DL
set_option Elab.async false
set_option linter.all false
set_option maxRecDepth 100000
namespace DL
open PySem PySem.Spec PyProof.Rows L2
abbrev GF := Fr → Mem → (OM → Mem → Prop) → Prop
structure DF (p : Bool) (X : Cx) (e : Expr) (g : GF) : Prop where
  run : PE X e (fun σ H Q => ∃ B E r M O, Rep X B E σ H r M O ∧ g r M (fun m M' => ∀ a H' O', New X B E σ H' r M' O' a → Rl p M O H M' O' H' → OOk X.K (Up (Av B M' O') a) H' a m → Q (.ref a) H'))
  mono : ∀ r M Q Q', (∀ d M', Q d M' → Q' d M') → g r M Q → g r M Q'
section
variable {X : Cx} {w p : Bool} {e : Expr} {es : List Expr} {g ga : GE} {gf : GF} {gs : GA} {B : Addr → Prop} {E : En} {σ : L2.St} {H : Hp} {r : Fr} {M : Mem} {O : Own} {pos : Pos}
theorem DF.on (ha : DF p X e gf) (R : Rep X B E σ H r M O) {k : OM → Mem → Prop} (h : gf r M k) {Q : VK}
    (hk : ∀ m M1 a H1 O1, k m M1 → New X B E σ H1 r M1 O1 a → Rl p M O H M1 O1 H1 → OOk X.K (Up (Av B M1 O1) a) H1 a m → Q (.ref a) H1) :
    ∃ B E r M O, Rep X B E σ H r M O ∧ gf r M (fun m M' => ∀ a H' O', New X B E σ H' r M' O' a → Rl p M O H M' O' H' → OOk X.K (Up (Av B M' O') a) H' a m → Q (.ref a) H') :=
  ⟨B, E, r, M, O, R, ha.mono r M _ _ (fun d M1 h1 v H1 O1 R1 l1 i1 => hk d M1 v H1 O1 h1 R1 l1 i1) h⟩
def gFd (gf : GF) : GE := fun r M Q => gf r M fun m M1 => match m with
  | .lst ds => Q (.lst ds) M1
  | .dic _ => False
/-- as data -/
theorem DF.de (h : DF p X e gf) : DE true p X e (gFd gf) :=
  ⟨peI h.run fun σ H Q ⟨B, E, r, M, O, R, q⟩ => h.on R q fun m M1 a H1 O1 k1 N1 l1 i1 => by
    cases m with
    | lst ds => exact k1 _ H1 O1 N1.any l1 (N1.is i1)
    | dic ds => exact k1.elim, fun r M Q Q' hh q => h.mono r M _ _ (fun m M1 q1 => by
    cases m with
    | lst ds => exact hh _ _ q1
    | dic ds => exact q1) q⟩
def gFl (gs : GA) : GF := fun r M Q => gs r M fun ds M1 => Q (.lst ds) M1
theorem new_lst (R : Rep X B E σ H r M O) {vs : List V} {ds : List D} (l : IsL X.K (Av B M O) H vs ds) {a : Addr} (n : H a = none) : New X B E σ (upd H a (.lst vs)) r M O a ∧ OOk X.K (Up (Av B M O) a) (upd H a (.lst vs)) a (.lst ds) :=
  ⟨New.of R n, vs, upd_same, l.step fun b u e nb => by
    have ne := ne_of_none e n
    exact ⟨by rw [upd_ne ne]; exact e, fun z => z.elim nb ne⟩⟩
theorem df_lst {n : Nat} (hs : DAn true p X n es gs) (hn : n ≤ sizeLine := by decide) : DF p X (.List es pos) (gFl gs) := by
  refine ⟨peI (pe_lst hs.da.run) fun σ H Q ⟨B, E, r, M, O, R, q⟩ => ?_, fun r M Q Q' h q => hs.da.mono r M _ _ (fun ds M1 q1 => h _ _ q1) q⟩
  refine hs.da.on R (hs.z hn _ _ _ q) fun ds M1 vs H1 O1 k1 R1 l1 i1 => ?_
  have i2 := isXL_strong i1
  refine ⟨by rw [i2.length]; exact k1.1, fun a n => ?_⟩
  obtain ⟨N, q⟩ := new_lst R1 i2 n
  exact k1.2 a _ O1 N (l1.trans (Rl.of_same (same_upd n))) q
/-- list(x), x a list or a tuple -/
def gFlist (ga : GE) : GF := fun r M Q => ga r M fun d M1 => match d with
  | .lst xs => Q (.lst xs) M1
  | .tup xs => Q (.lst xs) M1
  | .dic kds => Q (.lst (kds.map fun kv => kD kv.1)) M1
  | _ => False
def gOwn (i : Nat) (gf : GF) : GS := fun D r M => gf r M fun m M1 => D.nx (r.set i (.o m)) M1
theorem ds_own (i : Nat) {x : Str} {pos' : Pos} (hN : X.N.Nodup) (he : DF p X e gf) (hi : X.N[i]? = some x := by rfl) (hx : Loc X.env.scope x := by first | exact Or.inl rfl | exact Or.inr rfl) (hs : swapsWith e (some (.Name x pos')) pos.line X.env = pure false := by rfl)
    (hf : X.fn x = true ∨ X.env.scope.names.lookup x = some .local := by first | exact .inl rfl | exact .inr rfl | assumption) : DS X (.Assign [.Name x pos'] e pos) (gOwn i gf) := by
  refine ⟨psI (ps_set hN hi hx he.run hs hf) fun D σ H ⟨B, E, r, M, O, R, q⟩ => ?_, fun D D' r M l q => he.mono _ _ _ _ (fun d M1 q1 => l.nx _ _ q1) q⟩
  exact he.on R q (Q := fun x H1 => D.nx (σ.set i (some x)) H1) fun m M1 a H1 O1 k1 N1 l1 i1 => k1 _ H1 _ (N1.toSlot i i1)
/-- an own list is written: it alone changes -/
theorem Rep.mutO (R : Rep X B E σ H r M O) {i : Nat} {a : Addr} {m m' : OM} {u : HO} (hr : r.sl[i]? = some (.o m)) (hs : σ[i]? = some (some (.ref a))) (ha : O a = some (.slot i)) (hu : OOk X.K (Av B M O) (upd H a u) a m') :
    Rep X B E σ (upd H a u) (r.set i (.o m')) M O := by
  have mA : Mut M O a := .inr (by rw [ha]; simp)
  have keep : ∀ {b : Addr} {o : HO}, b ≠ a → H b = some o → upd H a u b = some o := fun {b o} h e => by rw [upd_ne h]; exact e
  have s : ∀ {A : Addr → Prop}, A a → Step A H A (upd H a u) := fun hA b o e nb => ⟨keep (fun z => nb (by rw [z]; exact hA)) e, nb⟩
  refine ⟨⟨fun b mo e => ?_, fun b w e => ?_, fun b z => ?_⟩, ?_, fun j sl e => ?_, R.ent.trans (s mA), R.sub, R.exc, R.lk, R.xe⟩
  · obtain ⟨h1, h2, h3⟩ := R.m.mem b mo e
    have nb : b ≠ a := fun z => by subst z; rw [ha] at h2; cases h2
    refine ⟨h1, h2, h3.stepS (s (.inr mA)) (fun o e => keep nb e) fun l f q => ⟨q, fun o e => keep (fun z => ?_) e⟩⟩
    subst z
    rw [ha] at q
    cases q
  · obtain ⟨h1, h2⟩ := R.m.own b w e
    refine ⟨h1, fun z => h2 ?_⟩
    by_cases hb : b = a
    · subst hb; rw [upd_same] at z; cases z
    · rw [upd_ne hb] at z; exact z
  · have q := R.m.btr b z
    by_cases hb : b = a
    · subst hb; rw [upd_same]; exact fun z => nomatch z
    · rw [upd_ne hb]; exact q
  · show σ.length = (r.sl.set i _).length
    rw [List.length_set]; exact R.len
  · have e : (r.sl.set i (.o m'))[j]? = some sl := e
    by_cases hj : i = j
    · subst hj
      have hi : i < r.sl.length := (List.getElem?_eq_some_iff.mp hr).1
      rw [List.getElem?_set_self hi] at e
      cases e
      rw [hs]
      exact ⟨a, rfl, ha, hu⟩
    · rw [List.getElem?_set_ne hj] at e
      refine (R.sl j sl e).stepS (s (.inr mA)) (s mA) fun l q => ⟨q, fun o e => keep (fun z => ?_) e⟩
      subst z
      rw [ha] at q
      cases q
      exact hj rfl
def gApp (i : Nat) (ge : GE) : GS := fun D r M => match r.sl[i]? with
  | some (.o (.lst ds)) => ge r M fun d M1 => ds.length < sizeLine ∧ D.nx (r.set i (.o (.lst (ds ++ [d])))) M1
  | _ => False
theorem ds_app (i : Nat) {x : Str} {px apos cpos : Pos} (he : DE true p X e ge) (hN : X.N[i]? = some x := by rfl) (hv : Vis X.env.scope x := by first | exact Or.inl rfl | exact Or.inr (Or.inl rfl) | exact Or.inr (Or.inr rfl)) (hd : (x == ("__debug__" : Str)) = false := by decide)
    (hcd : (x == ("__classdict__" : Str)) = false := by decide)
    (hbase : attributeBase (.Name x px) "append" X.env (eval (.Name x px) X.env) = eval (.Name x px) X.env := by rfl)
    (hfew : ((backTo cpos (starEach [e] X.env)).all (fun x => !x.1) && (backToKw cpos (keywordEach [] X.env)).all (fun x => x.1.isSome)
      && decide ([e].length + ([] : List Keyword).length + (if ([] : List Keyword).isEmpty then 0 else 1) < 30)) = true := by rfl)
    (hline : (apos.endLine == cpos.line) = true := by rfl) (hs : starEach [e] X.env = (false, eval e X.env) :: starEach [] X.env := by rfl) (hplain : (backTo cpos (starEach [] X.env)).any (·.1) = false := by rfl)
    (hsw : swapsWith (.Call (.Attribute (.Name x px) "append" apos) [e] [] cpos) none pos.line X.env = pure false := by rfl) :
    DS X (.Expr (.Call (.Attribute (.Name x px) "append" apos) [e] [] cpos) pos) (gApp i ge) := by
  have he' := da_one (w := true) he hs
  refine ⟨psI (ps_expr (pe_bm PySem.F.plainAttrs_list PySem.F.slot_list_append PySem.F.type_list_append mt_append (pe_var (pos := px) hN hv hd hcd) he'.run hbase hfew hline hs hplain) hsw) fun D σ H ⟨B, E, r, M, O, R, q⟩ => ?_, fun D D' r M l q => ?_⟩
  · unfold gApp at q
    split at q
    · rename_i ds er
      obtain ⟨x, e1, a, e2, ha, vs, e3, l3⟩ := R.slot er
      subst e2
      refine ⟨.ref a, e1, .inl ⟨rfl, vs, SqL.of e3⟩, ?_⟩
      refine he'.on R (k := fun zs M1 => ∃ d, zs = [d] ∧ ds.length < sizeLine ∧ (LS X B E D).nx (r.set i (.o (.lst (ds ++ [d])))) M1) (he.mono _ _ _ _ (fun d M1 q1 => ⟨d, rfl, q1⟩) q) fun zs M1 us H1 O1 k1 R1 l1 i1 => ?_
      obtain ⟨d, rfl, hz, k1⟩ := k1
      have i2 := isXL_strong i1
      cases i2 with
      | @cons v _ us' _ i3 t =>
        cases t
        obtain ⟨x', f1, a', f2, ha', vs', f3, l3'⟩ := R1.slot er
        rw [e1] at f1
        cases f1
        have f2 : some (V.ref a) = some (V.ref a') := f2
        cases f2
        refine ⟨a, vs', v, rfl, rfl, f3, by rw [l3'.length]; exact hz, ?_⟩
        refine k1 σ _ O1 (R1.mutO er e1 ha' ⟨vs' ++ [v], upd_same, ?_⟩)
        have s : Step (Av B M1 O1) H1 (Av B M1 O1) (upd H1 a (.lst (vs' ++ [v]))) := fun b o eb nb => ⟨by
          rw [upd_ne (fun z => nb (by rw [z]; exact .inr (.inr (by rw [ha']; simp))))]; exact eb, nb⟩
        exact (l3'.append (.cons i3 .nil)).step s
    · exact q.elim
  · unfold gApp at q ⊢
    split at q
    · exact he.mono _ _ _ _ (fun d M1 q1 => ⟨q1.1, l.nx _ _ q1.2⟩) q
    · exact q.elim
/-- from here on it is data -/
def frz (i : Nat) (r : Fr) : Fr := match r.sl[i]? with
  | some (.o m) => r.set i (.v m.d)
  | _ => r
def gFrz (i : Nat) (g : GS) : GS := fun D r M => g D (frz i r) M
def unown (O : Own) (a : Addr) : Own := fun b => if b = a then none else O b
theorem Rep.frzG (R : Rep X B E σ H r M O) {i : Nat} {m : OM} {a : Addr} {H' : Hp} (er : r.sl[i]? = some (.o m)) (e1 : σ[i]? = some (some (.ref a))) (ha : O a = some (.slot i))
    (hk : ∀ b o, b ≠ a → H b = some o → H' b = some o) (hn : H' a ≠ none) (hi : ∀ A', ¬ A' a → Step (Av B M O) H A' H' → Is X.K A' H' (.ref a) m.d) : Rep X B E σ H' (r.set i (.v m.d)) M (unown O a) := by
  have mA : Mut M O a := .inr (by rw [ha]; simp)
  have le : ∀ b, Mut M (unown O a) b → Mut M O b := fun b z => by
    rcases z with z | z
    · exact .inl z
    · unfold unown at z
      by_cases hb : b = a
      · rw [if_pos hb] at z; exact absurd rfl z
      · rw [if_neg hb] at z; exact .inr z
  have leA : ∀ b, Av B M (unown O a) b → Av B M O b := fun b z => z.elim .inl fun z => .inr (le b z)
  have s : Step (Av B M O) H (Av B M (unown O a)) H' := fun b o e n => ⟨hk b o (fun z => n (by rw [z]; exact .inr mA)) e, fun z => n (leA b z)⟩
  have sU : Step (Mut M O) H (Mut M (unown O a)) H' := fun b o e n => ⟨hk b o (fun z => n (by rw [z]; exact mA)) e, fun z => n (le b z)⟩
  have hun : ∀ {b : Addr} {w : Ow}, b ≠ a → O b = some w → unown O a b = some w := fun hb e => by unfold unown; rw [if_neg hb]; exact e
  have nB := (R.m.own a _ ha).1
  have nM : M a = none := by
    cases e : M a with
    | none => rfl
    | some mo => have := (R.m.mem a mo e).2.1; rw [ha] at this; cases this
  have nAv : ¬ Av B M (unown O a) a := fun z => by
    rcases z with z | z | z
    · exact nB z
    · exact z nM
    · unfold unown at z; rw [if_pos rfl] at z; exact absurd rfl z
  refine ⟨⟨fun b mo e => ?_, fun b w e => ?_, fun b z => ?_⟩, ?_, fun j sl e => ?_, R.ent.trans sU, R.sub, R.exc, R.lk, R.xe⟩
  · obtain ⟨h1, h2, h3⟩ := R.m.mem b mo e
    have nb : b ≠ a := fun z => by rw [z, nM] at e; cases e
    refine ⟨h1, ?_, h3.stepS s (fun o e => hk b o nb e) fun l f q => ?_⟩
    · unfold unown
      split
      · rfl
      · exact h2
    · have nl : l ≠ a := fun z => by rw [z, ha] at q; cases q
      exact ⟨hun nl q, fun o e => hk l o nl e⟩
  · unfold unown at e
    split at e
    · cases e
    · rename_i nb
      obtain ⟨g1, g2⟩ := R.m.own b w e
      refine ⟨g1, fun z => ?_⟩
      cases eb : H b with
      | none => exact g2 eb
      | some o => rw [hk b o nb eb] at z; cases z
  · intro q
    by_cases hb : b = a
    · rw [hb] at q; exact hn q
    · cases eb : H b with
      | none => exact R.m.btr b z eb
      | some o => rw [hk b o hb eb] at q; cases q
  · show σ.length = (r.sl.set i _).length
    rw [List.length_set]; exact R.len
  · have e : (r.sl.set i (.v m.d))[j]? = some sl := e
    by_cases hj : i = j
    · subst hj
      have hi' : i < r.sl.length := (List.getElem?_eq_some_iff.mp er).1
      rw [List.getElem?_set_self hi'] at e
      cases e
      rw [e1]
      exact ⟨.ref a, rfl, hi _ nAv s⟩
    · rw [List.getElem?_set_ne hj] at e
      refine (R.sl j sl e).stepS s sU fun l q => ?_
      have nl : l ≠ a := fun z => by rw [z, ha] at q; cases q; exact hj rfl
      exact ⟨hun nl q, fun o e => hk l o nl e⟩
/-- a dict is never written again from here on -/
theorem pss_fz {rest : List Stmt} {t : TS} (h : PSs X rest t) : PSs X rest (fun D σ H => t D σ H ∨ ∃ a kvs, H a = some (.dK kvs) ∧ ∀ o, t D σ (upd H a (.frz o (.dK kvs)))) :=
  ⟨fun pins s σ H D I q => by
    rcases q with q | ⟨a, kvs, e, q⟩
    · exact h.run pins s σ H D I q
    · obtain ⟨o, I2⟩ := I.lock e (by trivial)
      exact h.run pins s σ _ D I2 (q o)⟩
theorem dss_frz (i : Nat) {rest : List Stmt} {g : GS} (h : DSs X rest g) : DSs X rest (gFrz i g) := by
  refine ⟨pssI (pss_fz h.run) fun D σ H ⟨B, E, r, M, O, R, q⟩ => ?_, fun D D' r M l q => h.mono _ _ _ _ l q⟩
  unfold gFrz DL.frz at q
  split at q
  · rename_i m er
    obtain ⟨x, e1, a, e2, ha, hm⟩ := R.slot er
    subst e2
    cases m with
    | lst ds =>
      obtain ⟨vs, h1, h2⟩ := hm
      exact .inl ⟨B, E, _, M, _, R.frzG er e1 ha (fun b o _ e => e) (by rw [h1]; simp) (fun A' nA s => .lst ⟨nA, h1⟩ (h2.step s)), q⟩
    | dic ds =>
      obtain ⟨kvs, h1, h2⟩ := hm
      exact .inr ⟨a, kvs, h1, fun o => ⟨B, E, _, M, _, R.frzG er e1 ha (fun b o' nb e => by rw [upd_ne nb]; exact e) (by rw [upd_same]; simp) (fun A' nA s => .dic ⟨nA, o, upd_same⟩ (h2.step s)), q⟩⟩
  · exact .inl ⟨B, E, r, M, O, R, q⟩
end
end DL
set_option Elab.async false
set_option linter.all false
set_option maxRecDepth 100000
namespace DL
open PySem PySem.Spec PyProof.Rows L2
abbrev GG := D → Fr → Mem → (Fr → Mem → Prop) → Prop
abbrev GGs := List D → Fr → Mem → (Fr → Mem → Prop) → Prop
theorem pgI {X : Cx} {e : Expr} {t t' : TG} (h : PG X e t) (i : ∀ v σ H Q, t' v σ H Q → t v σ H Q) : PG X e t' := ⟨fun pins s σ H v u Q I r q => h.run pins s σ H v u Q I r (i v σ H Q q)⟩
theorem pgsI {X : Cx} {e : List Expr} {t t' : TGs} (h : PGs X e t) (i : ∀ v σ H Q, t' v σ H Q → t v σ H Q) : PGs X e t' := ⟨fun pins s σ H v u Q I r q => h.run pins s σ H v u Q I r (i v σ H Q q)⟩
def gtN (i : Nat) : GG := fun d r M Q => Q (r.set i (.v d)) M
def gtNil : GGs := fun ds r M Q => ds = [] ∧ Q r M
def gtCons (g : GG) (gs : GGs) : GGs := fun ds r M Q => match ds with
  | d :: r' => g d r M fun r1 M1 => gs r' r1 M1 Q
  | [] => False
/-- but for the slots at ws nothing is stored -/
def Out (ws : List Nat) (σ σ' : L2.St) : Prop := σ'.length = σ.length ∧ ∀ j, j ∉ ws → σ'[j]? = σ[j]?
theorem Out.trans {ws ws' : List Nat} {σ σ' σ'' : L2.St} (a : Out ws σ σ') (b : Out ws' σ' σ'') : Out (ws ++ ws') σ σ'' :=
  ⟨b.1.trans a.1, fun j h => (b.2 j fun z => h (List.mem_append_right _ z)).trans (a.2 j fun z => h (List.mem_append_left _ z))⟩
structure DGp (X : Cx) (t : Expr) (ws : List Nat) (g : GG) : Prop where
  run : PG X t (fun v σ H Q => ∃ B E r M O d, Rep X B E σ H r M O ∧ Is X.K (Av B M O) H v d ∧ g d r M fun r' M' => M' = M ∧ ∀ σ', Out ws σ σ' → Rep X B E σ' H r' M O → Q σ' H)
  mono : ∀ d r M Q Q', (∀ r' M', Q r' M' → Q' r' M') → g d r M Q → g d r M Q'
structure DGsp (X : Cx) (t : List Expr) (ws : List Nat) (g : GGs) : Prop where
  run : PGs X t (fun vs σ H Q => ∃ B E r M O ds, Rep X B E σ H r M O ∧ IsL X.K (Av B M O) H vs ds ∧ g ds r M fun r' M' => M' = M ∧ ∀ σ', Out ws σ σ' → Rep X B E σ' H r' M O → Q σ' H)
  mono : ∀ d r M Q Q', (∀ r' M', Q r' M' → Q' r' M') → g d r M Q → g d r M Q'
/-- M stays, and the slots but for those at ws -/
def SameM (ws : List Nat) (g : GG) : Prop := ∀ d r M Q, g d r M Q → g d r M fun r' M' => (M' = M ∧ ∀ j, j ∉ ws → r'.sl[j]? = r.sl[j]?) ∧ Q r' M'
def SameMs (ws : List Nat) (g : GGs) : Prop := ∀ d r M Q, g d r M Q → g d r M fun r' M' => (M' = M ∧ ∀ j, j ∉ ws → r'.sl[j]? = r.sl[j]?) ∧ Q r' M'
structure DT' (X : Cx) (t : Expr) (ws : List Nat) (g : GG) : Prop where
  p : DGp X t ws g
  s : SameM ws g
structure DTs' (X : Cx) (t : List Expr) (ws : List Nat) (g : GGs) : Prop where
  p : DGsp X t ws g
  s : SameMs ws g
section
variable {X : Cx} {w p : Bool} {e t : Expr} {es : List Expr} {g ga ge : GE} {gf : GF} {gs : GA} {gt : GG} {gts : GGs} {B : Addr → Prop} {E : En} {σ : L2.St} {H : Hp} {r : Fr} {M : Mem} {O : Own} {pos : Pos}
theorem dt_name (i : Nat) {x : Str} (hN : X.N.Nodup) (hi : X.N[i]? = some x := by rfl) (hx : Loc X.env.scope x := by first | exact Or.inl rfl | exact Or.inr rfl) (hf : X.fn x = true ∨ X.env.scope.names.lookup x = some .local := by first | exact .inl rfl | exact .inr rfl | assumption) : DT' X (.Name x pos) [i] (gtN i) :=
  ⟨⟨pgI (pg_name hN hi hx hf) fun v σ H Q ⟨B, E, r, M, O, d, R, i1, q⟩ => q.2 _ ⟨List.length_set .., fun j hj => List.getElem?_set_ne (fun z => hj (by simp [z]))⟩ (R.setv i i1), fun d r M Q Q' h q => h _ _ q⟩, fun d r M Q q => ⟨⟨rfl, fun j hj => List.getElem?_set_ne (fun z => hj (by simp [z]))⟩, q⟩⟩
theorem dts_nil : DTs' X [] [] gtNil :=
  ⟨⟨pgsI pgs_nil fun v σ H Q ⟨B, E, r, M, O, ds, R, i1, e, q⟩ => by
    subst e
    cases i1
    exact ⟨rfl, q.2 σ ⟨rfl, fun _ _ => rfl⟩ R⟩, fun d r M Q Q' h q => ⟨q.1, h _ _ q.2⟩⟩, fun d r M Q q => ⟨q.1, ⟨rfl, fun _ _ => rfl⟩, q.2⟩⟩
theorem dts_cons {ws1 ws2 : List Nat} (h1 : DT' X t ws1 gt) (h2 : DTs' X es ws2 gts) (hs : (assignEach (t :: es) X.env).map (·.2) = assign t X.env :: (assignEach es X.env).map (·.2) := by rfl) : DTs' X (t :: es) (ws1 ++ ws2) (gtCons gt gts) := by
  refine ⟨⟨pgsI (pgs_cons h1.p.run h2.p.run hs) fun vs σ H Q ⟨B, E, r, M, O, ds, R, i1, q⟩ => ?_, fun d r M Q Q' h q => ?_⟩, fun d r M Q q => ?_⟩
  · cases i1 with
    | nil => exact q.elim
    | @cons v d vs ds i t' =>
      refine ⟨v, vs, rfl, B, E, r, M, O, d, R, i, ?_⟩
      refine h1.p.mono _ _ _ _ _ (fun r1 M1 q1 => ?_) (h1.s _ _ _ _ q)
      obtain ⟨⟨e1, _⟩, q1⟩ := q1
      subst e1
      refine ⟨rfl, fun σ' o1 R' => ⟨B, E, r1, M1, O, ds, R', t', ?_⟩⟩
      exact h2.p.mono _ _ _ _ _ (fun r2 M2 q2 => ⟨q2.1, fun σ2 o2 R2 => q2.2 σ2 (o1.trans o2) R2⟩) q1
  · cases d with
    | nil => exact q.elim
    | cons d ds => exact h1.p.mono _ _ _ _ _ (fun r1 M1 q1 => h2.p.mono _ _ _ _ _ h q1) q
  · cases d with
    | nil => exact q.elim
    | cons d ds =>
      refine h1.p.mono _ _ _ _ _ (fun r1 M1 q1 => ?_) (h1.s _ _ _ _ q)
      obtain ⟨⟨e1, f1⟩, q1⟩ := q1
      subst e1
      refine h2.p.mono _ _ _ _ _ (fun r2 M2 q2 => ?_) (h2.s _ _ _ _ q1)
      exact ⟨⟨q2.1.1, fun j hj => (q2.1.2 j fun z => hj (List.mem_append_right _ z)).trans (f1 j fun z => hj (List.mem_append_left _ z))⟩, q2.2⟩
def gtTup (gts : GGs) (n : Nat) : GG := fun d r M Q => match d with
  | .tup ds => ds.length = n ∧ gts ds r M Q
  | _ => False
theorem dt_tup {k n : Nat} (hc : X.calm = true) {ws : List Nat} (h : DTs' X es ws gts) (hn : (assignEach es X.env).length = n := by rfl) (hst : (assignEach es X.env).findIdx? (·.1) = none := by rfl) : DT' X (.Tuple es k pos) ws (gtTup gts n) := by
  refine ⟨⟨pgI (pg_tup (n := n) hc h.p.run hn hst) fun v σ H Q ⟨B, E, r, M, O, d, R, i1, q⟩ => ?_, fun d r M Q Q' hh q => ?_⟩, fun d r M Q q => ?_⟩
  · unfold gtTup at q
    split at q
    · cases i1 with
      | @tup a vs _ h l => exact ⟨a, vs, rfl, h.sq, by rw [l.length]; exact q.1, B, E, r, M, O, _, R, l, q.2⟩
    · exact q.elim
  · unfold gtTup at q ⊢
    split at q
    · exact ⟨q.1, h.p.mono _ _ _ _ _ hh q.2⟩
    · exact q.elim
  · unfold gtTup at q ⊢
    split at q
    · exact ⟨q.1, h.s _ _ _ _ q.2⟩
    · exact q.elim
/-- a list unpacked -/
def gtLst (gts : GGs) (n : Nat) : GG := fun d r M Q => match d with
  | .lst ds => ds.length = n ∧ gts ds r M Q
  | _ => False
theorem dt_lst {k n : Nat} (hc : X.calm = true) {ws : List Nat} (h : DTs' X es ws gts) (hn : (assignEach es X.env).length = n := by rfl) (hst : (assignEach es X.env).findIdx? (·.1) = none := by rfl) : DT' X (.Tuple es k pos) ws (gtLst gts n) := by
  refine ⟨⟨pgI (pg_lst (n := n) hc h.p.run hn hst) fun v σ H Q ⟨B, E, r, M, O, d, R, i1, q⟩ => ?_, fun d r M Q Q' hh q => ?_⟩, fun d r M Q q => ?_⟩
  · unfold gtLst at q
    split at q
    · cases i1 with
      | @lst a vs _ h l => exact ⟨a, vs, rfl, SqL.of h.2, by rw [l.length]; exact q.1, B, E, r, M, O, _, R, l, q.2⟩
    · exact q.elim
  · unfold gtLst at q ⊢
    split at q
    · exact ⟨q.1, h.p.mono _ _ _ _ _ hh q.2⟩
    · exact q.elim
  · unfold gtLst at q ⊢
    split at q
    · exact ⟨q.1, h.s _ _ _ _ q.2⟩
    · exact q.elim
/-- target = e -/
def gAsg (ge : GE) (gt : GG) : GS := fun D r M => ge r M fun d M1 => gt d r M1 D.nx
theorem ds_asg {ws : List Nat} (he : DE true p X e ge) (hg : DT' X t ws gt) (hs : swapsWithSole [t] e pos.line X.env = pure false := by rfl) (hw : swappedStores [t] e X.env = pure none := by rfl)
    (h1 : (assignEach [t] X.env).map (·.2) = [assign t X.env] := by rfl) : DS X (.Assign [t] e pos) (gAsg ge gt) := by
  refine ⟨psI (ps_asg he.run hg.p.run hs hw h1) fun D σ H ⟨B, E, r, M, O, R, q⟩ => ?_, fun D D' r M l q => he.mono _ _ _ _ (fun d M1 q1 => hg.p.mono _ _ _ _ _ (fun r' M' q2 => l.nx _ _ q2) q1) q⟩
  refine he.on R q fun d M1 v H1 O1 k1 R1 l1 i1 => ?_
  refine ⟨B, E, r, M1, O1, d, R1, i1, ?_⟩
  refine hg.p.mono _ _ _ _ _ (fun r' M' q2 => ?_) (hg.s _ _ _ _ k1)
  obtain ⟨⟨e1, _⟩, q2⟩ := q2
  subst e1
  exact ⟨rfl, fun σ' _ R' => q2 σ' H1 O1 R'⟩
/-- x, y = a, b (names) -/
def gPar (i j : Nat) (gs : GA) : GS := fun D r M => gs r M fun ds M1 => match ds with
  | [d, e] => D.nx ((r.set i (.v d)).set j (.v e)) M1
  | _ => False
theorem ds_par (i j : Nat) {x y : Str} {a b : Expr} {px py pt : Pos} {kt k2 pt2} (hc : X.calm = true) (hN : X.N.Nodup) (ha : DA true p X [a, b] gs) (hi : X.N[i]? = some x := by rfl) (hj : X.N[j]? = some y := by rfl) (hij : i ≠ j := by decide)
    (hx : X.env.scope.names.lookup x = some .local := by rfl) (hy : X.env.scope.names.lookup y = some .local := by rfl)
    (hw : swappedStores [.Tuple [.Name x px, .Name y py] kt pt] (.Tuple [a, b] k2 pt2) X.env = pure (some [x, y]) := by rfl)
    (hs : swapsWithSole [.Tuple [.Name x px, .Name y py] kt pt] (.Tuple [a, b] k2 pt2) pos.line X.env = pure false := by rfl) :
    DS X (.Assign [.Tuple [.Name x px, .Name y py] kt pt] (.Tuple [a, b] k2 pt2) pos) (gPar i j gs) := by
  refine ⟨psI (ps_par hc hN hi hj hij hx hy ha.run hw hs) fun D σ H ⟨B, E, r, M, O, R, q⟩ => ?_, fun D D' r M l q => ha.mono _ _ _ _ (fun ds M1 q1 => ?_) q⟩
  · refine ha.on R q fun ds M1 vs H1 O1 k1 R1 l1 i1 => ?_
    have i2 := isXL_strong i1
    split at k1
    · cases i2 with
      | @cons v _ _ _ iv t =>
        cases t with
        | @cons u _ _ _ iu t =>
          cases t
          exact ⟨v, u, rfl, k1 _ H1 O1 ((R1.setv i iv).setv j iu)⟩
    · exact k1.elim
  · split at q1
    · exact l.nx _ _ q1
    · exact q1.elim
/-- x += e, x a name whose value is a number or a text -/
def gAug (i : Nat) (go : GO) (ge : GE) : GS := fun D r M => match r.sl[i]? with
  | some (.v d) => ge r M fun e M1 => go d e M1 fun z M2 => D.nx (r.set i (.v z)) M2
  | _ => False
def goPlus : GO := fun d e M Q => match d, e with
  | .int i, .int j => Q (.int (i + j)) M
  | _, _ => False
theorem ds_augI (i : Nat) {x : Str} {pos' : Pos} (hN : X.N.Nodup) (he : DE true p X e ge) (hi : X.N[i]? = some x := by rfl) (hx : Loc X.env.scope x := by first | exact Or.inl rfl | exact Or.inr rfl) (hf : X.fn x = true ∨ X.env.scope.names.lookup x = some .local := by first | exact .inl rfl | exact .inr rfl | assumption) :
    DS X (.AugAssign (.Name x pos') .Add e pos) (gAug i goPlus ge) := by
  refine ⟨psI (ps_aug hN hi hx he.run ip_add hf) fun D σ H ⟨B, E, r, M, O, R, q⟩ => ?_, fun D D' r M l q => ?_⟩
  · unfold gAug at q
    split at q
    · rename_i d er
      obtain ⟨x, e1, v, e2, i1⟩ := R.slot er
      subst e2
      refine ⟨v, e1, he.on R q fun e M1 u H1 O1 k1 R1 l1 i2 => ?_⟩
      have i2 : Is X.K (Av B M1 O1) H1 u e := i2
      unfold goPlus at k1
      split at k1
      · cases i1; cases i2
        exact ⟨_, _, rfl, rfl, k1 _ H1 O1 (R1.setv i (.int _))⟩
      · exact k1.elim
    · exact q.elim
  · unfold gAug at q ⊢
    split at q
    · refine he.mono _ _ _ _ (fun e M1 q1 => ?_) q
      unfold goPlus at q1 ⊢
      split at q1
      · exact l.nx _ _ q1
      · exact q1.elim
    · exact q.elim
abbrev GI := Fr → Mem → (List D → Mem → Prop) → Prop
/-- from a state on: item by item, as long as only what may change changes -/
def WalkOk (X : Cx) (B : Addr → Prop) (H1 : Hp) (M1 : Mem) (O1 : Own) (J : It) (ds : List D) : Prop := ∀ A U H, (∀ b, H b = none → ¬ A b) → Step (Av B M1 O1) H1 A H → Step (Mut M1 O1) H1 U H → ∀ i,
  (∀ d, ds[i]? = some d → J.go i H ∧ ∀ x H', J.yld i H x H' → Same H H' ∧ Is X.K A H' x d) ∧ (ds.length ≤ i → J.stop i H)
/-- .. while what was there stays as it was (where p says so) -/
def WalkQ (p : Bool) (X : Cx) (B : Addr → Prop) (H1 : Hp) (M1 : Mem) (O1 : Own) (J : It) (ds : List D) : Prop := ∀ A U H, (∀ b, H b = none → ¬ A b) → Step (Av B M1 O1) H1 A H → Step (Mut M1 O1) H1 U H → (p = true → Same H1 H) → ∀ i,
  (∀ d, ds[i]? = some d → J.go i H ∧ ∀ x H', J.yld i H x H' → Same H H' ∧ Is X.K A H' x d) ∧ (ds.length ≤ i → J.stop i H)
theorem WalkOk.q {p : Bool} {X : Cx} {B : Addr → Prop} {H1 : Hp} {M1 : Mem} {O1 : Own} {J : It} {ds : List D} (h : WalkOk X B H1 M1 O1 J ds) : WalkQ p X B H1 M1 O1 J ds := fun A U H a b c _ => h A U H a b c
structure DI (p : Bool) (X : Cx) (tg iter : Expr) (gi : GI) : Prop where
  ex : ∃ wi, PI X tg iter wi ∧ ∀ B E σ H r M O k R', Rep X B E σ H r M O → gi r M k → (∀ ds M1 H1 O1 J, k ds M1 → Rep X B E σ H1 r M1 O1 → Rl p M O H M1 O1 H1 → WalkOk X B H1 M1 O1 J ds → R' J H1) → wi σ H R'
  mono : ∀ r M Q Q', (∀ d M', Q d M' → Q' d M') → gi r M Q → gi r M Q'
/-- from here on: the heap as it is now -/
def En.now (E : En) (H : Hp) (M : Mem) (O : Own) : En := { E with H := H, U := Mut M O }
theorem Rep.now (R : Rep X B E σ H r M O) : Rep X B (E.now H M O) σ H r M O :=
  ⟨R.m, R.len, R.sl, Step.refl _ _, R.sub, fun C M' H' O' h1 h2 h3 => R.exc C M' H' O' h1 (R.ent.trans h2) h3, R.lk, R.xe⟩
theorem Rep.then (R : Rep X B E σ H r M O) {σ' : L2.St} {H' : Hp} {r' : Fr} {M' : Mem} {O' : Own} (R' : Rep X B (E.now H M O) σ' H' r' M' O') : Rep X B E σ' H' r' M' O' :=
  ⟨R'.m, R'.len, R'.sl, R.ent.trans R'.ent, R.sub, R.exc, R.lk, R'.xe⟩
end
end DL
set_option Elab.async false
set_option linter.all false
set_option maxRecDepth 100000
namespace DL
open PySem PySem.Spec PyProof.Rows L2
section
variable {X : Cx} {w p : Bool} {e t iter tg : Expr} {es : List Expr} {g ga ge : GE} {gf : GF} {gs : GA} {gt : GG} {gi : GI} {B : Addr → Prop} {E : En} {σ : L2.St} {H : Hp} {r : Fr} {M : Mem} {O : Own} {pos : Pos}
theorem av_step {H1 : Hp} {M1 : Mem} {O1 : Own} (s : Step (Mut M1 O1) H1 (Mut M O) H) : Step (Av B M1 O1) H1 (Av B M O) H := fun a o e n =>
  have n1 : ¬ B a := fun z => n (.inl z)
  have ⟨h1, h2⟩ := s a o e fun z => n (.inr z)
  ⟨h1, fun z => z.elim n1 h2⟩
/-- a list or tuple that stands -/
theorem walk_lst {H1 : Hp} {M1 : Mem} {O1 : Own} {a : Addr} {vs : List V} {ds : List D} (h : LstAt (Mut M1 O1) H1 a vs) (l : IsL X.K (Av B M1 O1) H1 vs ds) : WalkOk X B H1 M1 O1 (Itl X.K a) ds := by
  intro A U H fA sA s i
  have h' := h.step s
  have l' := l.step sA
  refine ⟨fun d hd => ?_, fun hle => ⟨vs, SqL.of h'.2, by rw [l'.length]; exact hle⟩⟩
  obtain ⟨v, hv, iv⟩ := l'.get hd
  refine ⟨⟨vs, v, SqL.of h'.2, hv⟩, fun x H' ⟨e1, e2⟩ => ?_⟩
  subst e1
  have e3 := e2 vs (SqL.of h'.2)
  rw [hv] at e3
  cases e3
  exact ⟨Same.refl _, iv⟩
theorem walk_tup {H1 : Hp} {M1 : Mem} {O1 : Own} {a : Addr} {vs : List V} {ds : List D} (h : TupAt X.K (Mut M1 O1) H1 a vs) (l : IsL X.K (Av B M1 O1) H1 vs ds) : WalkOk X B H1 M1 O1 (Itt X.K a) ds := by
  intro A U H fA sA s i
  have h' := h.step s
  have l' := l.step sA
  refine ⟨fun d hd => ?_, fun hle => ⟨vs, h'.sq, by rw [l'.length]; exact hle⟩⟩
  obtain ⟨v, hv, iv⟩ := l'.get hd
  refine ⟨⟨vs, v, h'.sq, hv⟩, fun x H' ⟨e1, e2⟩ => ?_⟩
  subst e1
  have e3 := e2 vs h'.sq
  rw [hv] at e3
  cases e3
  exact ⟨Same.refl _, iv⟩
theorem lst_mut {a : Addr} {vs : List V} (h : LstAt (Av B M O) H a vs) : LstAt (Mut M O) H a vs := ⟨fun z => h.1 (.inr z), h.2⟩
theorem tup_mut {a : Addr} {vs : List V} (h : TupAt X.K (Av B M O) H a vs) : TupAt X.K (Mut M O) H a vs := by
  rcases h with ⟨n, h⟩ | h
  · exact .inl ⟨fun z => n (.inr z), h⟩
  · exact .inr h
/-- the script -/
def giS (i : Nat) : GI := fun r M Q => match r.sl[i]? with
  | some (.s ns) => Q (ns.map D.int) M
  | _ => False
theorem di_scr (i : Nat) {x : Str} (hN : X.N[i]? = some x := by rfl) (hv : Vis X.env.scope x := by first | exact Or.inl rfl | exact Or.inr (Or.inl rfl) | exact Or.inr (Or.inr rfl)) (hd : (x == ("__debug__" : Str)) = false := by decide)
    (hcd : (x == ("__classdict__" : Str)) = false := by decide) : DI p X tg (.Name x pos) (giS i) where
  ex := ⟨_, pi_list (pe_var hN hv hd hcd), fun B E σ H r M O k R' R q hR => by
    unfold giS at q
    split at q
    · rename_i ns er
      obtain ⟨x, e1, a, e2, h⟩ := R.slot er
      subst e2
      refine ⟨_, e1, a, rfl, ⟨_, h.sq⟩, hR _ M H O _ q R Rl.refl ?_⟩
      intro A2 U2 H2 fA sA s j
      have h' := (h.step s).sq
      refine ⟨fun d hd => ?_, fun hle => ⟨_, h', by rw [List.length_map] at hle ⊢; exact hle⟩⟩
      obtain ⟨v, hv, iv⟩ := (IsL.ints (K := X.K) (A := A2) (H := H2) ns).get hd
      refine ⟨⟨_, v, h', hv⟩, fun x H' ⟨e1, e2⟩ => ?_⟩
      subst e1
      have e3 := e2 _ h'
      rw [hv] at e3
      cases e3
      exact ⟨Same.refl _, iv⟩
    · exact q.elim⟩
  mono := fun r M Q Q' h q => by
    unfold giS at q ⊢
    split at q
    · exact h _ _ q
    · exact q.elim
/-- range -/
def rngD (lo : Int) (n : Nat) : List D := (List.range n).map fun (i : Nat) => D.int (lo + i)
theorem rngD_get {lo : Int} {n i : Nat} {d : D} (h : (rngD lo n)[i]? = some d) : i < n ∧ d = .int (lo + i) := by
  unfold rngD at h
  rw [List.getElem?_map] at h
  cases q : (List.range n)[i]? with
  | none => rw [q] at h; cases h
  | some j =>
    rw [q] at h
    obtain ⟨h1, h2⟩ := List.getElem?_eq_some_iff.mp q
    rw [List.length_range] at h1
    rw [List.getElem_range] at h2
    subst h2
    have h : some (D.int (lo + (i : Nat))) = some d := h
    cases h
    exact ⟨h1, rfl⟩
theorem rngD_len (lo : Int) (n : Nat) : (rngD lo n).length = n := by unfold rngD; rw [List.length_map, List.length_range]
theorem walk_rng {H1 : Hp} {M1 : Mem} {O1 : Own} {lo : Int} {n : Nat} : WalkOk X B H1 M1 O1 (Itr lo n) (rngD lo n) := by
  intro A U H fA sA s i
  refine ⟨fun d hd => ?_, fun hle => by rw [rngD_len] at hle; exact hle⟩
  obtain ⟨h1, rfl⟩ := rngD_get hd
  refine ⟨h1, fun x H' ⟨e1, e2⟩ => ?_⟩
  subst e1; subst e2
  exact ⟨Same.refl _, .int _⟩
def giR1 (gs : GA) : GI := fun r M Q => gs r M fun ds M1 => match ds with
  | [.int j] => (-(2 ^ 62) ≤ j ∧ j < 2 ^ 62) ∧ Q (rngD 0 j.toNat) M1
  | _ => False
def giR2 (gs : GA) : GI := fun r M Q => gs r M fun ds M1 => match ds with
  | [.int i, .int j] => (-(2 ^ 62) ≤ i ∧ i < 2 ^ 62 ∧ -(2 ^ 62) ≤ j ∧ j < 2 ^ 62) ∧ Q (rngD i (j - i).toNat) M1
  | _ => False
theorem di_range1 {a : Expr} {pf : Pos} (hg : Gl X "range") (hm : X.mg "range" = none) (ha : DA w p X [a] gs) (hs : starEach [a] X.env = [(false, eval a X.env)] := by rfl) : DI p X tg (.Call (.Name "range" pf) [a] [] pos) (giR1 gs) where
  ex := ⟨_, pi_range1 hg hm ha.run hs, fun B E σ H r M O k R' R q hR => by
    refine ha.on R q fun ds M1 vs H1 O1 k1 R1 l1 i1 => ?_
    have i2 := isXL_weak i1
    split at k1
    · obtain ⟨v, rfl, iv⟩ := isXL1 i2
      rw [is1_int iv]
      exact ⟨_, rfl, k1.1.1, k1.1.2, hR _ M1 H1 O1 _ k1.2 R1 l1 walk_rng⟩
    · exact k1.elim⟩
  mono := fun r M Q Q' h q => ha.mono _ _ _ _ (fun d M1 q1 => by
    split at q1
    · exact ⟨q1.1, h _ _ q1.2⟩
    · exact q1.elim) q
def loopD (gt : GG) (gb : GS) : List D → GS
  | [] => fun D r M => D.nx r M
  | d :: ds => fun D r M => gt d r M fun r' M' => gb { D with nx := loopD gt gb ds D, ct := loopD gt gb ds D, bk := D.nx } r' M'
def gFor (gi : GI) (gt : GG) (gb : GS) : GS := fun D r M => gi r M fun ds M1 => loopD gt gb ds D r M1
theorem loopD_mono {gb : GS} (ht : ∀ d r M Q Q', (∀ r' M', Q r' M' → Q' r' M') → gt d r M Q → gt d r M Q') (hb : MonoS gb) : ∀ ds, MonoS (loopD gt gb ds)
  | [] => fun D D' r M l q => l.nx _ _ q
  | d :: ds => fun D D' r M l q => by
    have ih := loopD_mono ht hb ds
    exact ht d r M _ _ (fun r' M' q1 => hb { D with nx := loopD gt gb ds D, ct := loopD gt gb ds D, bk := D.nx } _ r' M' ⟨fun r2 M2 q2 => ih D D' r2 M2 l q2, l.rt, fun r2 M2 q2 => l.nx _ _ q2, fun r2 M2 q2 => ih D D' r2 M2 l q2⟩ q1) q
theorem ds_for {body : List Stmt} {gb : GS} {ws : List Nat} (hp : PassesOwn (model X.prog X.w) X.A X.env X.xe) (hc : X.calm = true) (hi : DI p X tg iter gi) (hg : DT' X tg ws gt) (hb : DSs X body gb)
    (hs : ∀ x, foldedSetIterable iter X.env x = pure x := by intro _; rfl) : DS X (.For tg iter body [] pos) (gFor gi gt gb) := by
  obtain ⟨wi, hpi, hwi⟩ := hi.ex
  refine ⟨psI (ps_for hp hc hpi hg.p.run hb.run hs) fun D σ H ⟨B, E, r, M, O, R, q⟩ => ?_, fun D D' r M l q => hi.mono _ _ _ _ (fun ds M1 q1 => loopD_mono hg.p.mono hb.mono ds D D' r M1 l q1) q⟩
  refine hwi B E σ H r M O _ _ R q fun ds M1 H1 O1 J k1 R1 _ W1 => ?_
  refine ⟨fun i m σ' H' => i + m = ds.length ∧ ∃ r' M' O', Rep X B (E.now H1 M1 O1) σ' H' r' M' O' ∧ loopD gt gb (ds.drop i) (LS X B E D) r' M',
    ⟨ds.length, by omega, r, M1, O1, R1.now, by rw [List.drop_zero]; exact k1⟩, fun i m σ' H' ⟨him, r', M', O', R', q'⟩ => ?_⟩
  obtain ⟨w1, w2⟩ := W1 (Av B M' O') _ H' (fun b h => R'.m.fresh h) (av_step R'.ent) R'.ent i
  by_cases hlt : i < ds.length
  · right
    obtain ⟨d, hd⟩ : ∃ d, ds[i]? = some d := ⟨_, List.getElem?_eq_getElem hlt⟩
    obtain ⟨go, yl⟩ := w1 d hd
    have hdrop : ds.drop i = d :: ds.drop (i + 1) := by
      rw [List.drop_eq_getElem_cons hlt]
      rw [List.getElem?_eq_getElem hlt] at hd
      cases hd
      rfl
    rw [hdrop] at q'
    refine ⟨go, fun σ2 H2 => ∃ r2 M2 O2, Rep X B (E.now H1 M1 O1) σ2 H2 r2 M2 O2 ∧ loopD gt gb (ds.drop (i + 1)) (LS X B E D) r2 M2, fun σ2 H2 h2 => ⟨m - 1, by omega, by omega, h2⟩, fun x H2 hy => ?_⟩
    obtain ⟨sm, ix⟩ := yl x H2 hy
    have R2 := R'.same sm
    refine ⟨B, E.now H1 M1 O1, r', M', O', d, R2, ix, ?_⟩
    refine hg.p.mono _ _ _ _ _ (fun r3 M3 q3 => ?_) (hg.s _ _ _ _ q')
    obtain ⟨⟨e3, _⟩, q3⟩ := q3
    subst e3
    refine ⟨rfl, fun σ3 _ R3 => ⟨B, E.now H1 M1 O1, r3, M3, O', R3, ?_⟩⟩
    refine hb.mono { LS X B E D with nx := loopD gt gb (ds.drop (i + 1)) (LS X B E D), ct := loopD gt gb (ds.drop (i + 1)) (LS X B E D), bk := (LS X B E D).nx } _ _ _ ⟨fun r4 M4 q4 σ4 H4 O4 R4 => ⟨r4, M4, O4, R4, q4⟩, fun d4 M4 q4 v4 H4 O4 h4 s4 i4 => q4 v4 H4 O4 h4 (R1.ent.trans s4) i4, fun r4 M4 q4 σ4 H4 O4 R4 => q4 σ4 H4 O4 (R1.then R4), fun r4 M4 q4 σ4 H4 O4 R4 => ⟨r4, M4, O4, R4, q4⟩⟩ q3
  · left
    have hn : ds.drop i = [] := List.drop_eq_nil_of_le (by omega)
    rw [hn] at q'
    exact ⟨w2 (by omega), q' σ' H' O' (R1.then R')⟩
def gWhile (gc : GT) (gb : GS) : GS := fun D r M => ∃ W : Nat → Fr → Mem → Prop, (∃ m, W m r M) ∧ ∀ m r M, W m r M →
  gc r M fun b M1 => if b = true then gb { D with nx := fun r' M' => ∃ m', m' < m ∧ W m' r' M', ct := fun r' M' => ∃ m', m' < m ∧ W m' r' M', bk := D.nx } r M1 else D.nx r M1
theorem ds_while {c : Expr} {body : List Stmt} {gc : GT} {gb : GS} (hp : PassesOwn (model X.prog X.w) X.A X.env X.xe) (hc : DT p X c gc) (hb : DSs X body gb) : DS X (.While c body [] pos) (gWhile gc gb) := by
  refine ⟨psI (ps_while hp hc.run hb.run) fun D σ H ⟨B, E, r, M, O, R, W, ⟨m0, w0⟩, turn⟩ => ?_, fun D D' r M l ⟨W, w0, turn⟩ => ⟨W, w0, fun m r M w => hc.mono _ _ _ _ (fun b M1 q1 => ?_) (turn m r M w)⟩⟩
  · refine ⟨fun m σ' H' => ∃ r' M' O', Rep X B E σ' H' r' M' O' ∧ W m r' M', ⟨m0, r, M, O, R, w0⟩, fun m σ' H' ⟨r', M', O', R', w'⟩ => ?_⟩
    refine hc.on R' (turn m r' M' w') fun b M1 H1 O1 k1 R1 l1 => ?_
    cases b with
    | true =>
      rw [if_pos rfl] at k1 ⊢
      refine ⟨fun σ2 H2 => ∃ m', m' < m ∧ ∃ r2 M2 O2, Rep X B E σ2 H2 r2 M2 O2 ∧ W m' r2 M2, fun σ2 H2 h => h, B, E, r', M1, O1, R1, ?_⟩
      refine hb.mono { LS X B E D with nx := fun r' M' => ∃ m', m' < m ∧ W m' r' M', ct := fun r' M' => ∃ m', m' < m ∧ W m' r' M', bk := (LS X B E D).nx } _ _ _ ⟨fun r2 M2 ⟨m', h1, h2⟩ σ2 H2 O2 R2 => ⟨m', h1, r2, M2, O2, R2, h2⟩, fun _ _ q => q, fun r2 M2 q2 σ2 H2 O2 R2 => q2 σ2 H2 O2 R2, fun r2 M2 ⟨m', h1, h2⟩ σ2 H2 O2 R2 => ⟨m', h1, r2, M2, O2, R2, h2⟩⟩ k1
    | false =>
      rw [if_neg Bool.false_ne_true] at k1 ⊢
      exact k1 σ' H1 O1 R1
  · cases b with
    | true =>
      rw [if_pos rfl] at q1 ⊢
      exact hb.mono { D with nx := fun r' M' => ∃ m', m' < m ∧ W m' r' M', ct := fun r' M' => ∃ m', m' < m ∧ W m' r' M', bk := D.nx } _ _ _ ⟨fun _ _ q => q, l.rt, fun r2 M2 q2 => l.nx _ _ q2, fun _ _ q => q⟩ q1
    | false =>
      rw [if_neg Bool.false_ne_true] at q1 ⊢
      exact l.nx _ _ q1
end
end DL
set_option Elab.async false
set_option linter.all false
set_option maxRecDepth 100000
namespace DL
open PySem PySem.Spec PyProof.Rows L2
def wipeS (sl : List Sl) : List Nat → List Sl
  | [] => sl
  | v :: vs => (wipeS sl vs).set v .n
theorem wipeS_len (sl : List Sl) : ∀ vs, (wipeS sl vs).length = sl.length
  | [] => rfl
  | v :: vs => by unfold wipeS; rw [List.length_set, wipeS_len sl vs]
theorem wipeS_get {sl : List Sl} {j : Nat} {s : Sl} : ∀ {vs : List Nat}, (wipeS sl vs)[j]? = some s → s = .n ∨ (j ∉ vs ∧ sl[j]? = some s)
  | [], h => .inr ⟨by simp, h⟩
  | v :: vs, h => by
    unfold wipeS at h
    by_cases hj : v = j
    · subst hj
      by_cases hv : v < (wipeS sl vs).length
      · rw [List.getElem?_set_self hv] at h
        cases h
        exact .inl rfl
      · rw [List.getElem?_eq_none (by simpa using hv)] at h
        cases h
    · rw [List.getElem?_set_ne hj] at h
      rcases wipeS_get h with h | ⟨h1, h2⟩
      · exact .inl h
      · exact .inr ⟨by simp only [List.mem_cons, not_or]; exact ⟨fun e => hj e.symm, h1⟩, h2⟩
theorem wipeS_out {sl : List Sl} {j : Nat} : ∀ {vs : List Nat}, j ∉ vs → (wipeS sl vs)[j]? = sl[j]?
  | [], _ => rfl
  | v :: vs, h => by
    unfold wipeS
    rw [List.getElem?_set_ne (fun e => h (by simp [e])), wipeS_out fun z => h (List.mem_cons_of_mem _ z)]
theorem wipe_out {σ : L2.St} {j : Nat} : ∀ {vs : List Nat}, j ∉ vs → (wipe σ vs)[j]? = σ[j]?
  | [], _ => rfl
  | v :: vs, h => by
    unfold wipe
    rw [List.getElem?_set_ne (fun e => h (by simp [e])), wipe_out fun z => h (List.mem_cons_of_mem _ z)]
theorem wipe_in {σ : L2.St} {j : Nat} (hj : j < σ.length) : ∀ {vs : List Nat}, j ∈ vs → (wipe σ vs)[j]? = some none
  | v :: vs, h => by
    unfold wipe
    by_cases hv : v = j
    · subst hv
      rw [List.getElem?_set_self (by rw [wipe_length]; exact hj)]
    · rw [List.getElem?_set_ne hv]
      exact wipe_in hj ((List.mem_cons.mp h).resolve_left fun e => hv e.symm)
theorem wipe_same {σ σ' : L2.St} {ws vs : List Nat} (o : Out ws (wipe σ vs) σ') (h : ∀ j ∈ ws, j ∈ vs) : wipe σ' vs = wipe σ vs := by
  apply List.ext_getElem?
  intro j
  by_cases hj : j ∈ vs
  · by_cases hl : j < σ.length
    · rw [wipe_in hl hj, wipe_in (by rw [o.1, wipe_length]; exact hl) hj]
    · rw [List.getElem?_eq_none (by rw [wipe_length, o.1, wipe_length]; omega), List.getElem?_eq_none (by rw [wipe_length]; omega)]
  · rw [wipe_out hj, o.2 j fun z => hj (h j z)]
def wipeF (r : Fr) (vs : List Nat) : Fr := ⟨wipeS r.sl vs, fun _ _ => False⟩
def noOwn (r : Fr) (vs : List Nat) : Bool := vs.all fun j => match r.sl[j]? with
  | some (.o _) => false
  | _ => true
def En.blk (H : Hp) (M : Mem) (O : Own) : En := ⟨fun _ => False, H, Mut M O, fun _ _ => False, fun _ _ => False⟩
theorem pass_no {X : Cx} : Takes X (fun cls d _ H => xk (fun _ _ => False) cls d H) := fun u s' h => by
  obtain ⟨_, _, _, _, _, _, _, _, _, _, _, _, _, _, _, _, z⟩ := h
  obtain ⟨_, _, _, z⟩ := z
  exact z.elim
section
variable {X X' : Cx} {w p : Bool} {e t iter tg : Expr} {es : List Expr} {g ga ge : GE} {gf : GF} {gs : GA} {gt : GG} {gi : GI} {gtt : GT} {B : Addr → Prop} {E : En} {σ : L2.St} {H H' : Hp} {r : Fr} {M : Mem} {O : Own} {pos : Pos}
theorem New.blk {a : Addr} (hK : X'.K = X.K) (N : New X B E σ H r M O a) (vs : List Nat) : Rep X' (Bp B a) (En.blk H M O) (wipe σ vs) H (wipeF r vs) M O := by
  refine ⟨by rw [hK]; exact N.m, by show (wipe σ vs).length = (wipeS r.sl vs).length; rw [wipe_length, wipeS_len]; exact N.len, fun i s e => ?_, Step.refl _ _, fun _ z => z.elim, fun _ _ _ _ _ _ z => z.elim, pass_no, rfl⟩
  rcases wipeS_get e with rfl | ⟨hi, e⟩
  · trivial
  · rw [wipe_out hi, hK]
    have q := N.sl i s e
    rw [← av_up] at q
    exact q.stepS (Step.refl _ _) step_dn fun l q => ⟨q, fun _ e => e⟩
def lcD (gt : GG) (gtt : GT) (ge : GE) (r : Fr) : List D → List D → Mem → (List D → Mem → Prop) → Prop
  | [], acc, M, Q => Q acc M
  | d :: ds, acc, M, Q => gt d r M fun r1 M1 => gtt r1 M1 fun b M2 => if b = true then ge r1 M2 fun x M3 => acc.length < sizeLine ∧ lcD gt gtt ge r ds (acc ++ [x]) M3 Q else lcD gt gtt ge r ds acc M2 Q
theorem lcD_mono (ht : ∀ d r M Q Q', (∀ r' M', Q r' M' → Q' r' M') → gt d r M Q → gt d r M Q') (htt : ∀ r M Q Q', (∀ d M', Q d M' → Q' d M') → gtt r M Q → gtt r M Q') (he : ∀ r M Q Q', (∀ d M', Q d M' → Q' d M') → ge r M Q → ge r M Q') :
    ∀ ds acc M Q Q', (∀ a M', Q a M' → Q' a M') → lcD gt gtt ge r ds acc M Q → lcD gt gtt ge r ds acc M Q'
  | [], acc, M, Q, Q', h, q => h _ _ q
  | d :: ds, acc, M, Q, Q', h, q => ht _ _ _ _ _ (fun r1 M1 q1 => htt _ _ _ _ (fun b M2 q2 => by
      cases b with
      | true =>
        rw [if_pos rfl] at q2 ⊢
        exact he _ _ _ _ (fun x M3 q3 => ⟨q3.1, lcD_mono ht htt he ds _ _ _ _ h q3.2⟩) q2
      | false =>
        rw [if_neg Bool.false_ne_true] at q2 ⊢
        exact lcD_mono ht htt he ds _ _ _ _ h q2) q1) q
def gLc (gi : GI) (gt : GG) (gtt : GT) (ge : GE) (vs : List Nat) : GF := fun r M Q => noOwn r vs = true ∧ gi r M fun ds M1 => lcD gt gtt ge (wipeF r vs) ds [] M1 fun acc M2 => Q (.lst acc) M2
/-- the tests of a comprehension -/
structure DTts (p : Bool) (X : Cx) (ifs : List Expr) (g : GT) : Prop where
  run : PTs X ifs (fun σ H Q => ∃ B E r M O, Rep X B E σ H r M O ∧ g r M (LT p X B E σ r H M O Q))
  mono : ∀ r M Q Q', (∀ d M', Q d M' → Q' d M') → g r M Q → g r M Q'
def gYes : GT := fun _ M Q => Q true M
theorem dtts_nil : DTts p X [] gYes := ⟨⟨fun pins s σ H Q I ⟨B, E, r, M, O, R, q⟩ => pts_nil.run pins s σ H Q I (q H O R Rl.refl)⟩, fun _ _ _ _ h q => h _ _ q⟩
theorem dtts_one {c : Expr} {gc : GT} (h : DT p X c gc) : DTts p X [c] gc := ⟨pts_one h.run, h.mono⟩
theorem DTts.on {ifs : List Expr} {gt : GT} (ha : DTts p X ifs gt) (R : Rep X B E σ H r M O) {k : Bool → Mem → Prop} (h : gt r M k) {Q : Bool → Hp → Prop}
    (hk : ∀ d M1 H1 O1, k d M1 → Rep X B E σ H1 r M1 O1 → Rl p M O H M1 O1 H1 → Q d H1) :
    ∃ B E r M O, Rep X B E σ H r M O ∧ gt r M (LT p X B E σ r H M O Q) :=
  ⟨B, E, r, M, O, R, ha.mono r M _ _ (fun d M1 h1 H1 O1 R1 l1 => hk d M1 H1 O1 h1 R1 l1) h⟩
/-- behind a turn: the slots as they were -/
theorem New.turn {a : Addr} (hK : X'.K = X.K) (N : New X B E σ H r M O a) {vs ws : List Nat} (hws : ∀ j ∈ ws, j ∈ vs) (hno : noOwn r vs = true) {σ2 : L2.St} {r2 : Fr} {E2 : En} {M' : Mem} {O' : Own} (o : Out ws (wipe σ vs) σ2) (f : ∀ j, j ∉ ws → r2.sl[j]? = (wipeF r vs).sl[j]?)
    (l : Rl p M O H M' O' H') (R : Rep X' (Bp B a) E2 σ2 H' r2 M' O') (ha : H a ≠ none) : New X B E σ H' r M' O' a := by
  have nav : ¬ Av B M' O' a := fun z => by
    rcases z with z | z
    · exact N.nav (.inl z)
    · cases e : H a with
      | none => exact ha e
      | some o => exact (l.2 a o e fun q => N.nav (.inr q)).2 z
  have sA : Step (Up (Av B M O) a) H (Up (Av B M' O') a) H' := step_up l.avs
  have sU : Step (Up (Mut M O) a) H (Up (Mut M' O') a) H' := step_up l.2
  refine ⟨by rw [← hK]; exact R.m, N.len, fun i sl e => ?_, N.ent.trans sU, N.sub, N.exc, N.lk, N.xe, nav⟩
  have q := N.sl i sl e
  cases sl with
  | n => trivial
  | v d =>
    obtain ⟨v, e1, e2⟩ := q
    exact ⟨v, e1, e2.step sA⟩
  | o m =>
    have hi : i ∉ vs := fun z => by
      have h := List.all_eq_true.mp hno i z
      rw [e] at h
      cases h
    have hi' : i ∉ ws := fun z => hi (hws i z)
    have e2 : r2.sl[i]? = some (.o m) := by
      rw [f i hi']
      show (wipeS r.sl vs)[i]? = _
      rw [wipeS_out hi]; exact e
    have q2 : SlU X'.K (Av (Bp B a) M' O') (Mut M' O') O' H' i ((σ2[i]?).getD none) (.o m) := R.sl i _ e2
    rw [o.2 i hi', wipe_out hi, hK, av_up] at q2
    exact q2
  | b k ds =>
    obtain ⟨a, vs, e1, e2, e3⟩ := q
    exact ⟨a, vs, e1, e2.step sU, e3.step sA⟩
  | s ns =>
    obtain ⟨a, e1, e2⟩ := q
    exact ⟨a, e1, e2.step sU⟩
  | f l => exact ⟨q.1, q.2.trans sA⟩
theorem Rl.put {a : Addr} {H1 : Hp} {M1 : Mem} {O1 : Own} {u : HO} (l : Rl p M1 O1 H1 M O H) (n : H1 a = none) : Rl p M1 O1 H1 M O (upd H a u) :=
  ⟨fun e => by
    obtain ⟨h1, h2, h3⟩ := l.1 e
    exact ⟨h1, h2, fun b o e => by rw [upd_ne (ne_of_none e n)]; exact h3 b o e⟩,
  fun b o e nb => by
    obtain ⟨h1, h2⟩ := l.2 b o e nb
    exact ⟨by rw [upd_ne (ne_of_none e n)]; exact h1, h2⟩⟩
/-- the new list grows: nobody stands on it -/
theorem New.put {a : Addr} (N : New X B E σ H r M O a) (ha : H a ≠ none) {u : HO} : New X B E σ (upd H a u) r M O a := by
  have s : ∀ {A : Addr → Prop}, Step (Up A a) H (Up A a) (upd H a u) := fun {A} b o e n => ⟨by rw [upd_ne (fun z => n (.inr z))]; exact e, n⟩
  have nO : O a = none := by
    cases e : O a with
    | none => rfl
    | some w => exact (N.nav (.inr (.inr (by rw [e]; simp)))).elim
  have nM : M a = none := by
    cases e : M a with
    | none => rfl
    | some w => exact (N.nav (.inr (.inl (by rw [e]; simp)))).elim
  have keep : ∀ {b : Addr} {o : HO}, b ≠ a → H b = some o → upd H a u b = some o := fun {b o} h e => by rw [upd_ne h]; exact e
  have nn : ∀ {b : Addr}, H b ≠ none → upd H a u b ≠ none := fun {b} h => by
    by_cases hb : b = a
    · subst hb; rw [upd_same]; exact fun z => nomatch z
    · rw [upd_ne hb]; exact h
  refine ⟨⟨fun b mo e => ?_, fun b w e => ?_, fun b z => nn (N.m.btr b z)⟩, N.len, fun i sl e => (N.sl i sl e).stepS s s fun l q => ⟨q, fun o e => keep (fun z => ?_) e⟩, N.ent.trans s, N.sub, N.exc, N.lk, N.xe, N.nav⟩
  · obtain ⟨h1, h2, h3⟩ := N.m.mem b mo e
    refine ⟨h1, h2, ?_⟩
    rw [av_up] at h3 ⊢
    exact h3.stepS s (fun o e' => keep (fun z => by subst z; rw [nM] at e; cases e) e') fun l f q => ⟨q, fun o e => keep (fun z => by subst z; rw [nO] at q; cases q) e⟩
  · exact ⟨(N.m.own b w e).1, nn (N.m.own b w e).2⟩
  · subst z
    rw [nO] at q
    cases q
/-- the same, whatever the context's exceptions: none are let out -/
structure RepK (K : PySem.W.Frag) (B : Addr → Prop) (E : En) (σ : L2.St) (H : Hp) (r : Fr) (M : Mem) (O : Own) : Prop where
  m : MemOk K B H M O
  len : σ.length = r.sl.length
  sl : ∀ i s, r.sl[i]? = some s → SlOk K B H M O i ((σ[i]?).getD none) s
  ent : Step E.U E.H (Mut M O) H
  sub : ∀ b, E.B b → B b
  xe : r.ex = E.X
  no : E.X = (fun _ _ => False) ∧ E.W = (fun _ _ => False)
theorem RepK.rep (R : RepK X'.K B E σ H r M O) : Rep X' B E σ H r M O :=
  ⟨R.m, R.len, R.sl, R.ent, R.sub, fun C M' H' O' _ _ z => by rw [R.no.1] at z; exact z.elim, by rw [R.no.2]; exact pass_no, R.xe⟩
theorem Rep.k (R : Rep X' B E σ H r M O) (h : E.X = (fun _ _ => False) ∧ E.W = (fun _ _ => False)) : RepK X'.K B E σ H r M O := ⟨R.m, R.len, R.sl, R.ent, R.sub, R.xe, h⟩
def uE (p : Bool) (K : PySem.W.Frag) (g : GE) : TE := fun σ H Q => ∃ B E r M O, RepK K B E σ H r M O ∧ g r M fun d M' => ∀ v H' O', RepK K B E σ H' r M' O' → Rl p M O H M' O' H' → Is K (Av B M' O') H' v d → Q v H'
def uT (p : Bool) (K : PySem.W.Frag) (g : GT) : TT := fun σ H Q => ∃ B E r M O, RepK K B E σ H r M O ∧ g r M fun d M' => ∀ H' O', RepK K B E σ H' r M' O' → Rl p M O H M' O' H' → Q d H'
def uG (K : PySem.W.Frag) (ws : List Nat) (g : GG) : TG := fun v σ H Q => ∃ B E r M O d, RepK K B E σ H r M O ∧ Is K (Av B M O) H v d ∧ g d r M fun r' M' => (M' = M ∧ ∀ j, j ∉ ws → r'.sl[j]? = r.sl[j]?) ∧ ∀ σ', Out ws σ σ' → RepK K B E σ' H r' M O → Q σ' H
theorem DE.u (h : DE true p X' e ge) : PE X' e (uE p X'.K ge) := peI h.run fun σ H Q ⟨B, E, r, M, O, R, q⟩ =>
  h.on R.rep q fun d M1 v H1 O1 k1 R1 l1 i1 => k1 v H1 O1 (R1.k R.no) l1 i1
theorem DTts.u {ifs : List Expr} (h : DTts p X' ifs gtt) : PTs X' ifs (uT p X'.K gtt) := ⟨fun pins s σ H Q I ⟨B, E, r, M, O, R, q⟩ => h.run.run pins s σ H Q I
  (h.on R.rep q fun d M1 H1 O1 k1 R1 l1 => k1 H1 O1 (R1.k R.no) l1)⟩
theorem DT'.u {ws : List Nat} (h : DT' X' tg ws gt) : PG X' tg (uG X'.K ws gt) := pgI h.p.run fun v σ H Q ⟨B, E, r, M, O, d, R, i1, q⟩ =>
  ⟨B, E, r, M, O, d, R.rep, i1, h.p.mono _ _ _ (fun r' M' => (M' = M ∧ ∀ j, j ∉ ws → r'.sl[j]? = r.sl[j]?) ∧ ∀ σ', Out ws σ σ' → RepK X'.K B E σ' H r' M O → Q σ' H) _ (fun r' M' q1 => ⟨q1.1.1, fun σ' o R' => q1.2 σ' o (R'.k R.no)⟩) q⟩
theorem New.same {a : Addr} (N : New X B E σ H r M O a) (s : Same H H') : New X B E σ H' r M O a :=
  ⟨N.m.same s, N.len, fun i sl e => (N.sl i sl e).stepS (step_same s fun _ z => z) (step_same s fun _ z => z) fun l q => ⟨q, s l⟩, N.ent.trans (step_same s fun _ z => z), N.sub, N.exc, N.lk, N.xe, N.nav⟩
theorem lc_imp {ws vs : List Nat} {wi : TI} (hwi : ∀ B E σ H r M O k R', Rep X B E σ H r M O → gi r M k → (∀ ds M1 H1 O1 J, k ds M1 → Rep X B E σ H1 r M1 O1 → Rl p M O H M1 O1 H1 → WalkQ p X B H1 M1 O1 J ds → R' J H1) → wi σ H R')
    (hgm : ∀ d r M Q Q', (∀ r' M', Q r' M' → Q' r' M') → gt d r M Q → gt d r M Q') (htm : ∀ r M Q Q', (∀ d M', Q d M' → Q' d M') → gtt r M Q → gtt r M Q') (hem : ∀ r M Q Q', (∀ d M', Q d M' → Q' d M') → ge r M Q → ge r M Q') (hgs : SameM ws gt)
    (hws : ∀ j ∈ ws, j ∈ vs) (σ : L2.St) (H : Hp) (Q : VK) (hh : ∃ B E r M O, Rep X B E σ H r M O ∧ gLc gi gt gtt ge vs r M (fun m M' => ∀ a H' O', New X B E σ H' r M' O' a → Rl p M O H M' O' H' → OOk X.K (Up (Av B M' O') a) H' a m → Q (.ref a) H')) :
    tLc wi (uG X.K ws gt) (uT p X.K gtt) (uE p X.K ge) vs σ H Q := by
  obtain ⟨B, E, r, M, O, R, hno, q⟩ := hh
  refine hwi B E σ H r M O _ _ R q fun ds M1 H1 O1 J k1 R1 l1 W1 => ?_
  intro a n
  refine ⟨fun i m H2 => i + m = ds.length ∧ ∃ M2 O2 acc vs', New X B E σ H2 r M2 O2 a ∧ H2 a = some (.lst vs') ∧ IsL X.K (Up (Av B M2 O2) a) H2 vs' acc ∧ Rl p M1 O1 H1 M2 O2 H2 ∧ lcD gt gtt ge (wipeF r vs) (ds.drop i) acc M2 (fun acc' M' =>
      ∀ a' H' O', New X B E σ H' r M' O' a' → Rl p M O H M' O' H' → OOk X.K (Up (Av B M' O') a') H' a' (.lst acc') → Q (.ref a') H'),
    ⟨ds.length, by omega, M1, O1, [], [], New.of R1 n, upd_same, .nil, Rl.of_same (same_upd n), by rw [List.drop_zero]; exact k1⟩, fun i m H2 ⟨him, M2, O2, acc, vs', N2, e2, i2, l2, q2⟩ => ?_⟩
  obtain ⟨w1, w2⟩ := W1 (Up (Av B M2 O2) a) _ H2 (fun b h => by rw [← av_up]; exact N2.m.fresh h) (fun b o e nb => by
    obtain ⟨h1, h2⟩ := l2.avs b o e nb
    exact ⟨h1, fun z => z.elim h2 fun z => (ne_of_none e n) z⟩) l2.2 (fun e => (l2.1 e).2.2) i
  by_cases hlt : i < ds.length
  · right
    obtain ⟨d, hd⟩ : ∃ d, ds[i]? = some d := ⟨_, List.getElem?_eq_getElem hlt⟩
    obtain ⟨go, yl⟩ := w1 d hd
    have hdrop : ds.drop i = d :: ds.drop (i + 1) := by
      rw [List.drop_eq_getElem_cons hlt]
      rw [List.getElem?_eq_getElem hlt] at hd
      cases hd
      rfl
    rw [hdrop] at q2
    have ha2 : H2 a ≠ none := by rw [e2]; exact fun z => nomatch z
    refine ⟨go, fun H3 => ∃ M2 O2 acc vs', New X B E σ H3 r M2 O2 a ∧ H3 a = some (.lst vs') ∧ IsL X.K (Up (Av B M2 O2) a) H3 vs' acc ∧ Rl p M1 O1 H1 M2 O2 H3 ∧ lcD gt gtt ge (wipeF r vs) (ds.drop (i + 1)) acc M2 (fun acc' M' =>
      ∀ a' H' O', New X B E σ H' r M' O' a' → Rl p M O H M' O' H' → OOk X.K (Up (Av B M' O') a') H' a' (.lst acc') → Q (.ref a') H'), fun H3 h3 => ⟨m - 1, by omega, by omega, h3⟩, fun x H3 hy => ?_⟩
    obtain ⟨sm, ix⟩ := yl x H3 hy
    -- the state at the turn's begin
    have N3 : New X B E σ H3 r M2 O2 a := N2.same sm
    have R3 : RepK X.K (Bp B a) (En.blk H3 M2 O2) (wipe σ vs) H3 (wipeF r vs) M2 O2 := (New.blk (X' := X) rfl N3 vs).k ⟨rfl, rfl⟩
    have e3 : H3 a = some (.lst vs') := sm _ _ e2
    have ha3 : H3 a ≠ none := by rw [e3]; exact fun z => nomatch z
    have i3 : IsL X.K (Up (Av B M2 O2) a) H3 vs' acc := i2.step (step_same sm fun _ z => z)
    have l3 : Rl p M1 O1 H1 M2 O2 H3 := l2.trans (Rl.of_same sm)
    have na : ¬ Mut M2 O2 a := fun z => N3.nav (.inr z)
    refine ⟨Bp B a, En.blk H3 M2 O2, wipeF r vs, M2, O2, d, R3, by rw [av_up]; exact ix, ?_⟩
    refine hgm _ _ _ _ _ (fun r4 M4 q4 => ?_) (hgs _ _ _ _ q2)
    obtain ⟨⟨e4, f4⟩, q4⟩ := q4
    subst e4
    refine ⟨⟨rfl, f4⟩, fun σ4 o4 R4 => ⟨wipe_same o4 hws, Bp B a, En.blk H3 M4 O2, r4, M4, O2, R4, ?_⟩⟩
    refine htm _ _ _ _ (fun b M5 q5 H5 O5 R5 l5 => ?_) q4
    have N5 : New X B E σ H5 r M5 O5 a := N3.turn (X' := X) rfl hws hno o4 f4 l5 R5.rep ha3
    have e5 : H5 a = some (.lst vs') := (l5.2 a _ e3 na).1
    have i5 : IsL X.K (Up (Av B M5 O5) a) H5 vs' acc := i3.step (step_up l5.avs)
    cases b with
    | false =>
      rw [if_neg Bool.false_ne_true] at q5
      refine iteF ?_
      exact ⟨M5, O5, acc, vs', N5, e5, i5, l3.trans l5, q5⟩
    | true =>
      rw [if_pos rfl] at q5
      refine iteT ?_
      refine ⟨Bp B a, En.blk H3 M4 O2, r4, M5, O5, R5, ?_⟩
      refine hem _ _ _ _ (fun y M6 q6 v6 H6 O6 R6 l6 i6 => ?_) q5
      have l56 := l5.trans l6
      have N6 : New X B E σ H6 r M6 O6 a := N3.turn (X' := X) rfl hws hno o4 f4 l56 R6.rep ha3
      have e6 : H6 a = some (.lst vs') := (l56.2 a _ e3 na).1
      have i6' : IsL X.K (Up (Av B M6 O6) a) H6 vs' acc := i3.step (step_up l56.avs)
      have ha6 : H6 a ≠ none := by rw [e6]; exact fun z => nomatch z
      rw [av_up] at i6
      refine ⟨vs', e6, by rw [i6'.length]; exact q6.1, M6, O6, acc ++ [y], vs' ++ [v6], N6.put ha6, upd_same, ?_, (l3.trans l56).put n, q6.2⟩
      have s : Step (Up (Av B M6 O6) a) H6 (Up (Av B M6 O6) a) (upd H6 a (.lst (vs' ++ [v6]))) := fun b o e nb => ⟨by rw [upd_ne (fun z => nb (.inr z))]; exact e, nb⟩
      exact (i6'.append (.cons i6 .nil)).step s
  · left
    have hn : ds.drop i = [] := List.drop_eq_nil_of_le (by omega)
    rw [hn] at q2
    exact ⟨w2 (by omega), q2 a H2 O2 N2 (l1.trans l2) ⟨vs', e2, i2⟩⟩
theorem df_lc {elt : Expr} {ifs : List Expr} {scope : Scope} {own : List (Str × Nat)} {ws : List Nat} (hc : X.calm = true) (hN : X.N.Nodup) (hi : DI p X tg iter gi) (ok : BlkOk X.N X.env.scope scope own)
    (hg : ∀ (s : Shared) (H : Hp) (C : Addr) (cl : List (Str × Addr)) (fp : List Addr), DT' (X.blk s H scope (compEnvC scope cl C X.env) fp) tg ws gt)
    (ht : ∀ (s : Shared) (H : Hp) (C : Addr) (cl : List (Str × Addr)) (fp : List Addr), DTts p (X.blk s H scope (compEnvC scope cl C X.env) fp) ifs gtt)
    (he : ∀ (s : Shared) (H : Hp) (C : Addr) (cl : List (Str × Addr)) (fp : List Addr), DE true p (X.blk s H scope (compEnvC scope cl C X.env) fp) elt ge)
    (hgm : ∀ d r M Q Q', (∀ r' M', Q r' M' → Q' r' M') → gt d r M Q → gt d r M Q') (htm : ∀ r M Q Q', (∀ d M', Q d M' → Q' d M') → gtt r M Q → gtt r M Q') (hem : ∀ r M Q Q', (∀ d M', Q d M' → Q' d M') → ge r M Q → ge r M Q') (hgs : SameM ws gt)
    (hws : ∀ j ∈ ws, j ∈ own.map (·.2)) (hs : ∀ x, foldedSetIterable iter X.env x = pure x := by intro _; rfl) : DF p X (.ListComp elt [⟨tg, iter, ifs, 0⟩] scope pos) (gLc gi gt gtt ge (own.map (·.2))) := by
  obtain ⟨wi, hpi, hwi⟩ := hi.ex
  exact ⟨peI (pe_lc (te := uE p X.K ge) (tt := uT p X.K gtt) (g := uG X.K ws gt) hc hN hpi ok (fun s H C cl fp => (hg s H C cl fp).u) (fun s H C cl fp => (ht s H C cl fp).u) (fun s H C cl fp => (he s H C cl fp).u) hs) (lc_imp (fun B E σ H r M O k R' R q hR => hwi B E σ H r M O k R' R q fun ds M1 H1 O1 J k1 R1 l1 W => hR ds M1 H1 O1 J k1 R1 l1 W.q) hgm htm hem hgs hws),
    fun r M Q Q' h q => ⟨q.1, hi.mono _ _ _ _ (fun ds M1 q1 => lcD_mono hgm htm hem ds _ _ _ _ (fun a M' q2 => h _ _ q2) q1) q.2⟩⟩
theorem ds_lc (i : Nat) {y : Str} {py spos : Pos} {elt : Expr} {ifs : List Expr} {scope : Scope} {own : List (Str × Nat)} {ws : List Nat} (hc : X.calm = true) (hN : X.N.Nodup) (hi : DI p X tg iter gi) (ok : BlkOk X.N X.env.scope scope own)
    (hg : ∀ (s : Shared) (H : Hp) (C : Addr) (cl : List (Str × Addr)) (fp : List Addr), DT' (X.blk s H scope (compEnvC scope cl C X.env) fp) tg ws gt)
    (ht : ∀ (s : Shared) (H : Hp) (C : Addr) (cl : List (Str × Addr)) (fp : List Addr), DTts p (X.blk s H scope (compEnvC scope cl C X.env) fp) ifs gtt)
    (he : ∀ (s : Shared) (H : Hp) (C : Addr) (cl : List (Str × Addr)) (fp : List Addr), DE true p (X.blk s H scope (compEnvC scope cl C X.env) fp) elt ge)
    (hgm : ∀ d r M Q Q', (∀ r' M', Q r' M' → Q' r' M') → gt d r M Q → gt d r M Q') (htm : ∀ r M Q Q', (∀ d M', Q d M' → Q' d M') → gtt r M Q → gtt r M Q') (hem : ∀ r M Q Q', (∀ d M', Q d M' → Q' d M') → ge r M Q → ge r M Q') (hgs : SameM ws gt)
    (hws : ∀ j ∈ ws, j ∈ own.map (·.2)) (hs : ∀ x, foldedSetIterable iter X.env x = pure x := by intro _; rfl)
    (hi' : X.N[i]? = some y := by rfl) (hy : X.env.scope.names.lookup y = some .local := by rfl) (hsw : swapsWith (.ListComp elt [⟨tg, iter, ifs, 0⟩] scope pos) (some (.Name y py)) spos.line X.env = pure true := by rfl) :
    PS X (.Assign [.Name y py] (.ListComp elt [⟨tg, iter, ifs, 0⟩] scope pos) spos) (fun D σ H => ∃ B E r M O, Rep X B E σ H r M O ∧ gLc gi gt gtt ge (own.map (·.2)) r M (fun m M' => ∀ a H' O', New X B E σ H' r M' O' a → Rl p M O H M' O' H' → OOk X.K (Up (Av B M' O') a) H' a m → D.nx (σ.set i (some (.ref a))) H')) := by
  obtain ⟨wi, hpi, hwi⟩ := hi.ex
  exact psI (ps_setLc (te := uE p X.K ge) (tt := uT p X.K gtt) (g := uG X.K ws gt) hc hN hi' hy hsw hpi ok (fun s H C cl fp => (hg s H C cl fp).u) (fun s H C cl fp => (ht s H C cl fp).u) (fun s H C cl fp => (he s H C cl fp).u) hs) fun D σ H q =>
    lc_imp (fun B E σ H r M O k R' R q hR => hwi B E σ H r M O k R' R q fun ds M1 H1 O1 J k1 R1 l1 W => hR ds M1 H1 O1 J k1 R1 l1 W.q) hgm htm hem hgs hws σ H (fun x H1 => D.nx (σ.set i (some x)) H1) q
theorem gLc_mono (hi : DI p X tg iter gi) {vs : List Nat} (hgm : ∀ d r M Q Q', (∀ r' M', Q r' M' → Q' r' M') → gt d r M Q → gt d r M Q') (htm : ∀ r M Q Q', (∀ d M', Q d M' → Q' d M') → gtt r M Q → gtt r M Q') (hem : ∀ r M Q Q', (∀ d M', Q d M' → Q' d M') → ge r M Q → ge r M Q') :
    ∀ r M Q Q', (∀ d M', Q d M' → Q' d M') → gLc gi gt gtt ge vs r M Q → gLc gi gt gtt ge vs r M Q' := fun r M Q Q' h q => ⟨q.1, hi.mono _ _ _ _ (fun ds M1 q1 => lcD_mono hgm htm hem ds _ _ _ _ (fun a M' q2 => h _ _ q2) q1) q.2⟩
end
end DL
set_option Elab.async false
set_option linter.all false
set_option maxRecDepth 100000
namespace DL
open PySem PySem.Spec PyProof.Rows L2
structure FnG (P : Program) (w : World) (K : PySem.W.Frag) (mg : Str → Option Value) (base : Heap) (k : Nat) (f : Addr) (fd : FuncData) (ps : List Str) (sp : Sp) : Prop where
  len : ∀ vs H Q E, sp vs H Q E → vs.length = ps.length
  run : ∀ (A : Around) (outer : List Env) (s : Shared) (H : Hp) (args : Args) (us : List Value) (vs : List V) (Q : VK) (E : XK), Room k A → A.guards = some [] → Env0 P w K mg base A outer s H → BindsTo s fd args (ps.zip us) →
    Vals vs us → sp vs H Q E → codeAny (model P w) A (.call (.ref f) args) (CR (L2.CX P w) outer P w H s Q E) s
section
variable {P : Program} {w : World} {K : PySem.W.Frag} {mg : Str → Option Value} {base : Heap} {j k : Nat} {f : Addr} {fd : FuncData} {ps : List Str} {sp sp' : Sp}
theorem FnG.mono (F : FnG P w K mg base j f fd ps sp) (h : j ≤ k) : FnG P w K mg base k f fd ps sp :=
  ⟨F.len, fun A outer s H args us vs Q E hr => F.run A outer s H args us vs Q E (hr.mono h)⟩
theorem FnG.imp (F : FnG P w K mg base k f fd ps sp) (h : ∀ vs H Q E, sp' vs H Q E → sp vs H Q E) : FnG P w K mg base k f fd ps sp' :=
  ⟨fun vs H Q E q => F.len vs H Q E (h _ _ _ _ q), fun A outer s H args us vs Q E hr hg he hb hv hs => F.run A outer s H args us vs Q E hr hg he hb hv (h _ _ _ _ hs)⟩
theorem fng_of {name qual : Str} {params : Arguments} {body : List Stmt} {scope : Scope} {dV kV doc pm cdv ct oc : Value} {an od : Option Addr} {osl : Array (Option Value)} {N : List Str}
    (lk : K.lookup f = some ⟨oc, od, .func (PySem.W.fnOf name qual params body scope dV kV doc pm an cdv ct), osl⟩) (hcd : PySem.W.codeIn K cdv qual = true) (S : FnScope N ps scope) (len : ∀ vs H Q E, sp vs H Q E → vs.length = ps.length)
    (hbody : ∀ (A : Around) (outer : List Env) (s : Shared) (H : Hp) (vs : List V) (Q : VK) (E : XK), Room k (A.deeper (envOfC qual scope s.heap.objs.size f cdv)) → A.guards = some [] → sp vs H Q E →
      ∃ t, PSs (cxOf (L2.CX P w) P w K mg base N qual scope f cdv A outer s H E) body t ∧ t { nx := fun _ H' => Q .non H', rt := Q } (L2.start N vs) H) :
    FnG P w K mg base (k + 1) f (PySem.W.fnOf name qual params body scope dV kV doc pm an cdv ct) ps sp := by
  refine ⟨len, fun A outer s H args us vs Q E hr hgd e0 hb r hsp => ?_⟩
  have hvl := len _ _ _ _ hsp
  have kIn : K.In s.heap := e0.mod.kin.keeps fun b o e => (e0.bs b o e).1
  have noLim : s.heap.NoLimit := e0.mod.nolimit.keeps fun b o e => (e0.bs b o e).1
  have kinds : ∀ y ∈ ps.zip us, scope.names.lookup y.1 = some .local ∨ (scope.names.lookup y.1 = some .cell ∧ ((cellsFrom (s.heap.objs.size + 1) scope.names []).lookup y.1).isSome = true) := by
    rintro ⟨n, v⟩ hy
    rcases S.par n (List.of_mem_zip hy).1 with q | q
    · exact .inl q
    · exact .inr ⟨q, PySem.W.cellsFrom_some _ _ _ (.inl q)⟩
  refine codeAny_call_function hr.depth (kIn _ _ lk) rfl S.co S.gen rfl (PySem.W.codeRec_of kIn hcd) (hb _ _ _ _ ?_)
  refine wpAny_newFunctionEnv_cells S.kind kinds fun env henv s1 x => ?_
  subst henv
  refine ⟨noLim.keeps x.toInCall.keep, codeAny_func ?_⟩
  obtain ⟨t, ht, hq⟩ := hbody A outer s H vs Q E (hr.deeper _) hgd hsp
  have I := inv_start (CX := L2.CX P w) (E := E) S hr.hd e0 hvl r x
  refine wpAny_mono (ht.run [] s1 (L2.start N vs) H _ I hq) (fun fl s' hs => ?_) fun e s' hs => hs
  cases fl with
  | ret u =>
    obtain ⟨v, σ', H', J, rv, q⟩ := hs
    exact ⟨v, H', J.os, J.bare, J.base, J.hok, rv, q⟩
  | next =>
    obtain ⟨σ', H', J, q⟩ := hs
    exact ⟨V.non, H', J.os, J.bare, J.base, J.hok, rfl, q⟩
  | brk =>
    obtain ⟨_, _, _, q⟩ := hs
    exact q.elim
  | cont =>
    obtain ⟨_, _, _, q⟩ := hs
    exact q.elim
end
/-- how an argument is handed in: as data, lent, the script -/
inductive AK where
  | v | b | s
abbrev FS := List D → Mem → (D → Mem → Prop) → (Addr → Mem → Prop) → Prop
def ArgOk (K : PySem.W.Frag) (A U : Addr → Prop) (H : Hp) (v : V) (d : D) : AK → Prop
  | .v => Is K A H v d
  | .b => match d with
    | .tup ds => ∃ a vs, v = .ref a ∧ TupAt K U H a vs ∧ IsL K A H vs ds
    | .lst ds => ∃ a vs, v = .ref a ∧ LstAt U H a vs ∧ IsL K A H vs ds
    | .dic _ => True
    | d => Is K A H v d
  | .s => ∃ a ns, v = .ref a ∧ d = .lst (ns.map D.int) ∧ ScrAt K U H a ns
def ArgsOk (K : PySem.W.Frag) (A U : Addr → Prop) (H : Hp) : List AK → List V → List D → Prop
  | [], [], [] => True
  | k :: ks, v :: vs, d :: ds => ArgOk K A U H v d k ∧ ArgsOk K A U H ks vs ds
  | _, _, _ => False
/-- no slot's own is in it -/
def Flds (O : Own) : Prop := ∀ a i, O a ≠ some (.slot i)
def toSp (K : PySem.W.Frag) (ks : List AK) (fs : FS) : Sp := fun vs H Q E => ∃ B M O ds, MemOk K B H M O ∧ Flds O ∧ ArgsOk K (Av B M O) (Mut M O) H ks vs ds ∧
  fs ds M (fun d M' => ∀ v H' O', MemOk K B H' M' O' → Flds O' → Step (Mut M O) H (Mut M' O') H' → Is K (Av B M' O') H' v d → Q v H')
    (fun C M' => ∀ H' O', MemOk K B H' M' O' → Flds O' → Step (Mut M O) H (Mut M' O') H' → E (.ref C) none H')
theorem ArgsOk.len {K : PySem.W.Frag} {A U : Addr → Prop} {H : Hp} : ∀ {ks : List AK} {vs : List V} {ds : List D}, ArgsOk K A U H ks vs ds → vs.length = ks.length
  | [], [], [], _ => rfl
  | _ :: ks, _ :: vs, _ :: ds, h => congrArg (· + 1) (ArgsOk.len h.2)
  | [], [], _ :: _, h => h.elim
  | [], _ :: _, [], h => h.elim
  | [], _ :: _, _ :: _, h => h.elim
  | _ :: _, [], [], h => h.elim
  | _ :: _, [], _ :: _, h => h.elim
  | _ :: _, _ :: _, [], h => h.elim
theorem ArgsOk.len2 {K : PySem.W.Frag} {A U : Addr → Prop} {H : Hp} : ∀ {ks : List AK} {vs : List V} {ds : List D}, ArgsOk K A U H ks vs ds → ds.length = ks.length
  | [], [], [], _ => rfl
  | _ :: ks, _ :: vs, _ :: ds, h => congrArg (· + 1) (ArgsOk.len2 h.2)
  | [], [], _ :: _, h => h.elim
  | [], _ :: _, [], h => h.elim
  | [], _ :: _, _ :: _, h => h.elim
  | _ :: _, [], [], h => h.elim
  | _ :: _, [], _ :: _, h => h.elim
  | _ :: _, _ :: _, [], h => h.elim
/-- the slots at the entry -/
def aSl : AK → D → Sl
  | .v, d => .v d
  | .b, .tup ds => .b true ds
  | .b, .lst ds => .b false ds
  | .b, .dic _ => .n
  | .b, d => .v d
  | .s, .lst ds => match intsOf ds with
    | some ns => .s ns
    | none => .n
  | .s, _ => .n
def aSls : List AK → List D → List Sl
  | k :: ks, d :: ds => aSl k d :: aSls ks ds
  | _, _ => []
def entry (n : Nat) (ks : List AK) (ds : List D) (X : Addr → Mem → Prop) : Fr := ⟨aSls ks ds ++ List.replicate (n - ks.length) .n, X⟩
theorem argSl {K : PySem.W.Frag} {B : Addr → Prop} {M : Mem} {O : Own} {H : Hp} {v : V} {d : D} {i : Nat} : ∀ {k : AK}, ArgOk K (Av B M O) (Mut M O) H v d k → SlOk K B H M O i (some v) (aSl k d)
  | .v, h => ⟨v, rfl, h⟩
  | .b, h => by
    cases d with
    | tup ds =>
      obtain ⟨a, vs, e, h1, h2⟩ := h
      exact ⟨a, vs, by rw [e], h1, h2⟩
    | lst ds =>
      obtain ⟨a, vs, e, h1, h2⟩ := h
      exact ⟨a, vs, by rw [e], h1, h2⟩
    | dic ds => trivial
    | _ => exact ⟨v, rfl, h⟩
  | .s, h => by
    obtain ⟨a, ns, e, e2, h⟩ := h
    subst e2
    show SlOk K B H M O i (some v) (match intsOf (ns.map D.int) with
      | some ns => Sl.s ns
      | none => Sl.n)
    rw [intsOf_map]
    exact ⟨a, by rw [e], h⟩
theorem argSls {K : PySem.W.Frag} {B : Addr → Prop} {M : Mem} {O : Own} {H : Hp} : ∀ {ks : List AK} {vs : List V} {ds : List D}, ArgsOk K (Av B M O) (Mut M O) H ks vs ds → (aSls ks ds).length = vs.length ∧ ∀ (i : Nat) (s : Sl), (aSls ks ds)[i]? = some s → ∃ v, vs[i]? = some v ∧ ∀ j, SlOk K B H M O j (some v) s
  | [], [], [], _ => ⟨rfl, fun i s e => by simp [aSls] at e⟩
  | k :: ks, v :: vs, d :: ds, h => by
    obtain ⟨h1, h2⟩ := argSls h.2
    refine ⟨congrArg (· + 1) h1, fun i s e => ?_⟩
    cases i with
    | zero =>
      have e : some (aSl k d) = some s := e
      cases e
      exact ⟨v, rfl, fun j => argSl h.1⟩
    | succ i => exact h2 i s e
  | [], [], _ :: _, h => h.elim
  | [], _ :: _, [], h => h.elim
  | [], _ :: _, _ :: _, h => h.elim
  | _ :: _, [], [], h => h.elim
  | _ :: _, [], _ :: _, h => h.elim
  | _ :: _, _ :: _, [], h => h.elim
def drops (O : Own) : Own := fun a => match O a with
  | some (.fld b f) => some (.fld b f)
  | _ => none
theorem drops_flds (O : Own) : Flds (drops O) := fun a i z => by
  unfold drops at z
  split at z <;> cases z
theorem mut_drops {M : Mem} {O : Own} (b : Addr) (z : Mut M (drops O) b) : Mut M O b := by
  rcases z with z | z
  · exact .inl z
  · refine .inr fun e => z ?_
    unfold drops
    rw [e]
theorem MemOk.drops {K : PySem.W.Frag} {B : Addr → Prop} {H : Hp} {M : Mem} {O : Own} (m : MemOk K B H M O) : MemOk K B H M (drops O) := by
  have s : Step (Av B M O) H (Av B M (DL.drops O)) H := step_id fun b _ n z => n (z.elim .inl fun z => .inr (mut_drops b z))
  refine ⟨fun b mo e => ?_, fun b w e => ?_, m.btr⟩
  · obtain ⟨h1, h2, h3⟩ := m.mem b mo e
    refine ⟨h1, by unfold DL.drops; rw [h2], h3.stepS s (fun _ e => e) fun l f q => ⟨by unfold DL.drops; rw [q], fun _ e => e⟩⟩
  · unfold DL.drops at e
    split at e
    · rename_i q
      exact m.own b _ q
    · cases e
def MonoF (fs : FS) : Prop := ∀ ds M Q Q' X X', (∀ d M', Q d M' → Q' d M') → (∀ C M', X C M' → X' C M') → fs ds M Q X → fs ds M Q' X'
section
variable {P : Program} {w : World} {K : PySem.W.Frag} {mg : Str → Option Value} {base : Heap} {j k : Nat} {f : Addr} {fd : FuncData} {ps : List Str} {fs : FS} {ks : List AK}
/-- THE RULE for a def: its body's derivation, and that its reading is what the promise asks -/
theorem d_fnC {x qual : Str} {st : Stmt} {N : List Str} {g : GS} (F : Fun K x qual st f fd) (S : FnScope N ps (defScope st)) (hk : ks.length = ps.length)
    (hbody : ∀ (cdv : Value), fd.code = cdv → ∀ (A : Around) (outer : List Env) (s : Shared) (H : Hp) (E : XK), Room k (A.deeper (envOfC qual (defScope st) s.heap.objs.size f cdv)) → A.guards = some [] →
      DSs (cxOf (L2.CX P w) P w K mg base N qual (defScope st) f cdv A outer s H E) (defBody st) g)
    (hfs : ∀ ds M Q X, fs ds M Q X → ds.length = ks.length → g { nx := fun _ M' => Q .non M', rt := Q } (entry N.length ks ds X) M) : FnG P w K mg base (k + 1) f fd ps (toSp K ks fs) := by
  obtain ⟨oc, od, kV, doc, pm, an, cdv, ct, osl, rfl, lk, hcd⟩ := F.ex
  refine fng_of lk hcd S (fun vs H Q E h => ?_) fun A outer s H vs Q E hr hgd hsp => ?_
  · obtain ⟨B, M, O, ds, _, _, h, _⟩ := h
    rw [h.len, hk]
  · obtain ⟨B, M, O, ds, hm, hO, ha, hq⟩ := hsp
    have hd := hbody cdv rfl A outer s H E hr hgd
    refine ⟨_, hd.run, B, ⟨B, H, Mut M O, fun C M' => ∀ H' O', MemOk K B H' M' O' → Flds O' → Step (Mut M O) H (Mut M' O') H' → E (.ref C) none H', fun C H' => E (.ref C) none H'⟩, entry N.length ks ds _, M, O, ⟨hm, ?_, fun i s e => ?_, Step.refl _ _, fun _ z => z, fun C M' H' O' h1 h2 h3 => h3 H' (drops O') h1.drops (drops_flds _) (h2.trans (step_id fun b _ n z => n (mut_drops b z))), ?_, rfl⟩, ?_⟩
    · show (L2.start N vs).length = (aSls ks ds ++ List.replicate (N.length - ks.length) Sl.n).length
      unfold L2.start
      rw [List.length_append, List.length_append, List.length_map, List.length_replicate, List.length_replicate, (argSls ha).1, ha.len]
    · have e : (aSls ks ds ++ List.replicate (N.length - ks.length) Sl.n)[i]? = some s := e
      by_cases hi : i < (aSls ks ds).length
      · rw [List.getElem?_append_left hi] at e
        obtain ⟨v, hv, q⟩ := (argSls ha).2 i s e
        have e2 : (L2.start N vs)[i]? = some (some v) := by
          unfold L2.start
          rw [List.getElem?_append_left (by rw [List.length_map, ← (argSls ha).1]; exact hi), List.getElem?_map, hv]
          rfl
        rw [e2]
        exact q i
      · rw [List.getElem?_append_right (by omega), List.getElem?_replicate] at e
        split at e
        · cases e
          trivial
        · cases e
    · exact (takes_of rfl rfl rfl rfl).imp fun cls d σ H h => by
        obtain ⟨C, e1, e2, h⟩ := h
        subst e1; subst e2
        exact h
    · refine hd.mono { nx := fun _ M' => (fun d M' => ∀ v H' O', MemOk K B H' M' O' → Flds O' → Step (Mut M O) H (Mut M' O') H' → Is K (Av B M' O') H' v d → Q v H') .non M', rt := fun d M' => ∀ v H' O', MemOk K B H' M' O' → Flds O' → Step (Mut M O) H (Mut M' O') H' → Is K (Av B M' O') H' v d → Q v H' } _ _ _ ⟨fun r' M' q σ' H' O' R' => ?_, fun d M' q v H' O' h1 h2 h3 => ?_, fun _ _ z => z.elim, fun _ _ z => z.elim⟩ (hfs ds M _ _ hq ha.len2)
      · exact q .non H' (drops O') R'.m.drops (drops_flds _) (R'.ent.trans (step_id fun b _ n z => n (mut_drops b z))) .non
      · exact q v H' (drops O') h1.drops (drops_flds _) (h2.trans (step_id fun b _ n z => n (mut_drops b z))) (h3.step (step_id fun b _ n z => n (z.elim .inl fun z => .inr (mut_drops b z))))
theorem d_fn {x qual : Str} {st : Stmt} {N : List Str} {g : GS} (F : Fun K x qual st f fd) (S : FnScope N ps (defScope st)) (hk : ks.length = ps.length)
    (hbody : ∀ (cdv : Value) (A : Around) (outer : List Env) (s : Shared) (H : Hp) (E : XK), Room k (A.deeper (envOfC qual (defScope st) s.heap.objs.size f cdv)) → A.guards = some [] →
      DSs (cxOf (L2.CX P w) P w K mg base N qual (defScope st) f cdv A outer s H E) (defBody st) g)
    (hfs : ∀ ds M Q X, fs ds M Q X → ds.length = ks.length → g { nx := fun _ M' => Q .non M', rt := Q } (entry N.length ks ds X) M) : FnG P w K mg base (k + 1) f fd ps (toSp K ks fs) :=
  d_fnC F S hk (fun cdv _ => hbody cdv) hfs
end
end DL
set_option Elab.async false
set_option linter.all false
set_option maxRecDepth 100000
namespace DL
open PySem PySem.Spec PyProof.Rows L2
def ArgX (K : PySem.W.Frag) (A U : Addr → Prop) (H : Hp) (v : V) (d : D) : AK → Prop
  | .v => Is K A H v d
  | .b => Is1 K A H v d
  | .s => ∃ a ns, v = .ref a ∧ d = .lst (ns.map D.int) ∧ ScrAt K U H a ns
def ArgsX (K : PySem.W.Frag) (A U : Addr → Prop) (H : Hp) : List AK → List V → List D → Prop
  | [], [], [] => True
  | k :: ks, v :: vs, d :: ds => ArgX K A U H v d k ∧ ArgsX K A U H ks vs ds
  | _, _, _ => False
def AK.w : AK → Bool
  | .b => false
  | _ => true
section
variable {X : Cx} {w p : Bool} {e : Expr} {es : List Expr} {g : GE} {gs : GA} {B : Addr → Prop} {E : En} {σ : L2.St} {H H' : Hp} {r : Fr} {M M' : Mem} {O O' : Own} {pos : Pos} {k : AK} {ks : List AK}
def LAk (p : Bool) (X : Cx) (ks : List AK) (B : Addr → Prop) (E : En) (σ : L2.St) (r : Fr) (H : Hp) (M : Mem) (O : Own) (Q : List V → Hp → Prop) : List D → Mem → Prop := fun ds M' =>
  ∀ vs H' O', Rep X B E σ H' r M' O' → Rl p M O H M' O' H' → ArgsX X.K (Av B M' O') (Mut M' O') H' ks vs ds → Q vs H'
structure DAk (p : Bool) (X : Cx) (ks : List AK) (es : List Expr) (g : GA) : Prop where
  run : PA X es (fun σ H Q => ∃ B E r M O, Rep X B E σ H r M O ∧ g r M (LAk p X ks B E σ r H M O Q))
  mono : ∀ r M Q Q', (∀ d M', Q d M' → Q' d M') → g r M Q → g r M Q'
theorem DAk.on (ha : DAk p X ks es gs) (R : Rep X B E σ H r M O) {kk : List D → Mem → Prop} (h : gs r M kk) {Q : List V → Hp → Prop}
    (hk : ∀ d M1 v H1 O1, kk d M1 → Rep X B E σ H1 r M1 O1 → Rl p M O H M1 O1 H1 → ArgsX X.K (Av B M1 O1) (Mut M1 O1) H1 ks v d → Q v H1) :
    ∃ B E r M O, Rep X B E σ H r M O ∧ gs r M (LAk p X ks B E σ r H M O Q) :=
  ⟨B, E, r, M, O, R, ha.mono r M _ _ (fun d M1 h1 v H1 O1 R1 l1 i1 => hk d M1 v H1 O1 h1 R1 l1 i1) h⟩
theorem dak_nil : DAk p X [] [] gNil := ⟨paI pa_nil fun σ H Q ⟨B, E, r, M, O, R, q⟩ => q [] H O R Rl.refl trivial, fun r M Q Q' h q => h _ _ q⟩
theorem argX_of (hk : k = .v ∨ k = .b) {A U : Addr → Prop} {v : V} {d : D} (h : IsX k.w X.K A H v d) : ArgX X.K A U H v d k := by
  rcases hk with rfl | rfl
  · exact h
  · exact h
theorem dak_cons (ha : DE k.w p X e g) (hr : DAk p X ks es gs) (hk : k = .v ∨ k = .b := by first | exact .inl rfl | exact .inr rfl) (hw : (k.w || p) = true := by first | rfl | exact Bool.or_true _) (hs : starEach (e :: es) X.env = (false, eval e X.env) :: starEach es X.env := by rfl) : DAk p X (k :: ks) (e :: es) (gCons g gs) := by
  refine ⟨paI (pa_cons ha.run hr.run hs) fun σ H Q ⟨B, E, r, M, O, R, q⟩ => ?_, fun r M Q Q' h q => ha.mono r M _ _ (fun d M1 q1 => hr.mono r M1 _ _ (fun ds M2 q2 => h _ _ q2) q1) q⟩
  refine ha.on R q fun d M1 v H1 O1 k1 R1 l1 i1 => ?_
  refine hr.on R1 k1 fun ds M2 vs H2 O2 k2 R2 l2 i2 => ?_
  exact k2 (v :: vs) H2 O2 R2 (l1.trans l2) ⟨argX_of hk (IsX.next hw l2 i1), i2⟩
theorem dak_one (ha : DE k.w p X e g) (hk : k = .v ∨ k = .b := by first | exact .inl rfl | exact .inr rfl) (hs : starEach [e] X.env = (false, eval e X.env) :: starEach [] X.env := by rfl) : DAk p X [k] [e] (gCons g gNil) := by
  refine ⟨paI (pa_cons ha.run pa_nil hs) fun σ H Q ⟨B, E, r, M, O, R, q⟩ => ?_, fun r M Q Q' h q => ha.mono r M _ _ (fun d M1 q1 => h _ _ q1) q⟩
  exact ha.on R q fun d M1 v H1 O1 k1 R1 l1 i1 => k1 [v] H1 O1 R1 l1 ⟨argX_of hk i1, trivial⟩
/-- the script handed on -/
def gScr (i : Nat) : GA := fun r M Q => match r.sl[i]? with
  | some (.s ns) => Q [.lst (ns.map D.int)] M
  | _ => False
theorem dak_scr (i : Nat) {x : Str} (hN : X.N[i]? = some x := by rfl) (hv : Vis X.env.scope x := by first | exact Or.inl rfl | exact Or.inr (Or.inl rfl) | exact Or.inr (Or.inr rfl)) (hd : (x == ("__debug__" : Str)) = false := by decide)
    (hcd : (x == ("__classdict__" : Str)) = false := by decide) (hs : starEach [Expr.Name x pos] X.env = (false, eval (.Name x pos) X.env) :: starEach [] X.env := by rfl) : DAk p X [.s] [.Name x pos] (gScr i) := by
  refine ⟨paI (pa_cons (pe_var hN hv hd hcd) pa_nil hs) fun σ H Q ⟨B, E, r, M, O, R, q⟩ => ?_, fun r M Q Q' h q => ?_⟩
  · unfold gScr at q
    split at q
    · rename_i ns er
      obtain ⟨x, e1, a, e2, h⟩ := R.slot er
      subst e2
      exact ⟨_, e1, q [_] H O R Rl.refl ⟨⟨a, ns, rfl, rfl, h⟩, trivial⟩⟩
    · exact q.elim
  · unfold gScr at q ⊢
    split at q
    · exact h _ _ q
    · exact q.elim
/-- len(script) -/
def gLenS (i : Nat) : GE := fun r M Q => match r.sl[i]? with
  | some (.s ns) => Q (.int ns.length) M
  | _ => False
theorem de_lenS (i : Nat) {x : Str} {px pf : Pos} (hg : Gl X "len") (hm : X.mg "len" = none) (hN : X.N[i]? = some x := by rfl) (hv : Vis X.env.scope x := by first | exact Or.inl rfl | exact Or.inr (Or.inl rfl) | exact Or.inr (Or.inr rfl)) (hd : (x == ("__debug__" : Str)) = false := by decide)
    (hcd : (x == ("__classdict__" : Str)) = false := by decide) (hs : starEach [Expr.Name x px] X.env = (false, eval (.Name x px) X.env) :: starEach [] X.env := by rfl) (hpl : (backTo pos (starEach [] X.env)).any (·.1) = false := by rfl) :
    DE true p X (.Call (.Name "len" pf) [.Name x px] [] pos) (gLenS i) := by
  refine ⟨peI (pe_callB call_len hg hm PySem.boot_len (pa_cons (pe_var hN hv hd hcd) pa_nil hs) (by decide) (by decide) hs hpl) fun σ H Q ⟨B, E, r, M, O, R, q⟩ => ?_, fun r M Q Q' h q => ?_⟩
  · unfold gLenS at q
    split at q
    · rename_i ns er
      obtain ⟨x, e1, a, e2, h⟩ := R.slot er
      subst e2
      exact ⟨_, e1, .ref a, _, rfl, .inl ⟨_, h.sq, rfl⟩, by rw [List.length_map]; exact fin_v R (.int _) q⟩
    · exact q.elim
  · unfold gLenS at q ⊢
    split at q
    · exact h _ _ q
    · exact q.elim
theorem run_fg {n : Nat} {f : Addr} {fd : FuncData} {ps : List Str} {sp : Sp} {Ex : XK} {pins : List (Addr × Obj)} {s : Shared} {Q : VK} {us : List Value} {vs : List V} (F : FnG X.prog X.w X.K X.mg X.base n f fd ps sp) (hr : Room n X.A) (hgd : X.A.guards = some [])
    (hb : Binds X.K fd ps []) (hx : Passes (L2.CX X.prog X.w) X Ex) (I : Inv X pins σ H s) (rv : Vals vs us) (h : sp vs H Q Ex) : wpAny (model X.prog X.w) X.A (call (.ref f) us) (EP X pins σ Q) X.xe s := by
  have hlen : (us ++ []).length = ps.length := by rw [List.append_nil, ← rv.length]; exact F.len _ _ _ _ h
  have hbd := hb s us I.kIn hlen
  rw [List.append_nil] at hbd
  refine wpAny_call (codeAny_mono (F.run X.A X.stack s H ⟨us, []⟩ us vs Q Ex hr hgd I.env0 hbd rv h) fun r s' hq => ?_)
  cases r with
  | error e => exact hx pins σ H s e s' I hq
  | ok fl =>
    cases fl with
    | ret u => exact I.after hq
    | next => exact hq.elim
    | brk => exact hq.elim
    | cont => exact hq.elim
theorem MemOk.subB {B0 : Addr → Prop} {K : PySem.W.Frag} (m : MemOk K B H M O) (h : ∀ b, B0 b → B b) : MemOk K B0 H M O := by
  have s : Step (Av B M O) H (Av B0 M O) H := step_id fun b _ n z => n (z.elim (fun z => .inl (h b z)) .inr)
  refine ⟨fun b mo e => ?_, fun b w e => ?_, fun b z => m.btr b (h b z)⟩
  · obtain ⟨h1, h2, h3⟩ := m.mem b mo e
    exact ⟨fun z => h1 (h b z), h2, h3.stepS s (fun _ e => e) fun l f q => ⟨q, fun _ e => e⟩⟩
  · exact ⟨fun z => (m.own b w e).1 (h b z), (m.own b w e).2⟩
def M0 : Mem := fun _ => none
def O0 : Own := fun _ => none
theorem mut0 (b : Addr) : ¬ Mut M0 O0 b := fun z => z.elim (fun z => z rfl) fun z => z rfl
theorem av0 {B : Addr → Prop} : Av B M0 O0 = B := by
  funext b
  apply propext
  exact ⟨fun z => z.elim _root_.id fun z => (mut0 b z).elim, .inl⟩
theorem argOk0 {A U : Addr → Prop} {K : PySem.W.Frag} {v : V} {d : D} : ∀ {k : AK}, ArgX K A U H v d k → ArgOk K A (Mut M0 O0) H v d k
  | .v, h => h
  | .b, h => by
    cases d with
    | tup ds =>
      obtain ⟨a, vs, e, h1, h2⟩ := h
      refine ⟨a, vs, e, ?_, h2⟩
      rcases h1 with h1 | h1
      · exact .inl ⟨mut0 a, h1⟩
      · exact .inr h1
    | lst ds =>
      obtain ⟨a, vs, e, h1, h2⟩ := h
      exact ⟨a, vs, e, ⟨mut0 a, h1⟩, h2⟩
    | dic ds => trivial
    | _ => exact h
  | .s, ⟨a, ns, e1, e2, h⟩ => by
    refine ⟨a, ns, e1, e2, ?_⟩
    rcases h with ⟨_, h⟩ | h
    · exact .inl ⟨mut0 a, h⟩
    · exact .inr h
theorem argsOk0 {A U : Addr → Prop} {K : PySem.W.Frag} : ∀ {ks : List AK} {vs : List V} {ds : List D}, ArgsX K A U H ks vs ds → ArgsOk K A (Mut M0 O0) H ks vs ds
  | [], [], [], _ => trivial
  | _ :: _, _ :: _, _ :: _, h => ⟨argOk0 h.1, argsOk0 h.2⟩
  | [], [], _ :: _, h => h.elim
  | [], _ :: _, [], h => h.elim
  | [], _ :: _, _ :: _, h => h.elim
  | _ :: _, [], [], h => h.elim
  | _ :: _, [], _ :: _, h => h.elim
  | _ :: _, _ :: _, [], h => h.elim
/-- a call that is handed no memory: it changes nothing -/
def gCallP (fs : FS) (gs : GA) : GE := fun r M Q => gs r M fun ds M1 => fs ds M0 (fun d _ => Q d M1) fun C _ => r.ex C M1
theorem callP_pre {fs : FS} (R : Rep X B E σ H r M O) {vs : List V} {ds : List D} (ha : ArgsX X.K (Av B M O) (Mut M O) H ks vs ds) {Q : VK} (h : fs ds M0 (fun d _ => LE w p X B E σ r H M O Q d M) fun C _ => r.ex C M) (hmf : MonoF fs) : toSp X.K ks fs vs H Q (xk E.W) := by
  refine ⟨Av B M O, M0, O0, ds, ⟨fun a mo e => (nomatch e), fun a w e => (nomatch e), fun a z n => R.m.fresh n z⟩, fun a i z => (nomatch z), by rw [av0]; exact argsOk0 ha, ?_⟩
  have sm : ∀ {H' : Hp} {M' : Mem} {O' : Own}, Step (Mut M0 O0) H (Mut M' O') H' → Same H H' := fun s a o e => (s a o e (mut0 a)).1
  refine hmf _ _ _ _ _ _ (fun d M' q v H' O' h1 h2 h3 h4 => ?_) (fun C M' q H' O' h1 h2 h3 => ?_) h
  · exact q v H' O (R.same (sm h3)) (Rl.of_same (sm h3)) (IsX.of (h4.step (step_id fun b _ n z => n (.inl z))))
  · refine ⟨C, rfl, rfl, ?_⟩
    have R' := R.same (sm h3)
    refine R.exc C M H' O (R'.m.subB R.sub) R'.ent ?_
    rw [← R.xe]
    exact q
theorem de_callP {n : Nat} {f : Addr} {fd : FuncData} {ps : List Str} {fs : FS} {x : Str} {pf : Pos} (F : FnG X.prog X.w X.K X.mg X.base n f fd ps (toSp X.K ks fs)) (hmf : MonoF fs) (hr : Room n X.A) (hgd : X.A.guards = some []) (hg : Gl X x) (hm : X.mg x = some (.ref f))
    (hk : PySem.W.keepIn X.K (.ref f) = true) (hb : Binds X.K fd ps []) (ha : DAk p X ks (e :: es) gs) (hdb : (x == ("__debug__" : Str)) = false := by decide) (he : starEach (e :: es) X.env = (false, eval e X.env) :: starEach es X.env := by rfl)
    (hpl : (backTo pos (starEach es X.env)).any (·.1) = false := by rfl) : DE true p X (.Call (.Name x pf) (e :: es) [] pos) (gCallP fs gs) := by
  refine ⟨⟨fun pins s σ H Q I ⟨B, E, r, M, O, R, q⟩ => ?_⟩, fun r M Q Q' h q => ha.mono _ _ _ _ (fun ds M1 q1 => hmf _ _ _ _ _ _ (fun d M' q2 => h _ _ q2) (fun C M' q2 => q2) q1) q⟩
  refine wpAny_Call_Name_kw (ld_glob I hg hm ?_ hdb)
  have hq := ha.on R q (Q := fun vs H1 => Passes (L2.CX X.prog X.w) X (xk E.W) ∧ toSp X.K ks fs vs H1 Q (xk E.W)) fun ds M1 vs H1 O1 k1 R1 l1 i1 => ⟨R1.ps, callP_pre R1 i1 (hmf _ _ _ _ _ _ (fun d M' q2 => LE.go l1 q2) (fun C M' q2 => q2) k1) hmf⟩
  refine PySem.W.callWith_K (h₀ := X.base) I.ok.mod.kin hk (thn (ha.run.run pos pins s σ H _ I hq) fun us s1 ⟨vs, H1, I1, r1, lk, qq⟩ => ⟨I1.kIn, ?_⟩) he hpl
  exact run_fg F hr hgd hb lk I1 r1 qq
/-- a call that may change the memory -/
def slots (O : Own) (b : Addr) : Prop := ∃ i, O b = some (.slot i)
def Bs (B : Addr → Prop) (O : Own) : Addr → Prop := fun b => B b ∨ slots O b
theorem av_bs : Av (Bs B O) M (drops O) = Av B M O := by
  funext b
  apply propext
  constructor
  · rintro ((h | ⟨i, h⟩) | h)
    · exact .inl h
    · exact .inr (.inr (by rw [h]; simp))
    · exact .inr (mut_drops b h)
  · rintro (h | h | h)
    · exact .inl (.inl h)
    · exact .inr (.inl h)
    · cases e : O b with
      | none => exact absurd e h
      | some w =>
        cases w with
        | slot i => exact .inl (.inr ⟨i, e⟩)
        | fld a f => exact .inr (.inr (by unfold drops; rw [e]; simp))
/-- the slots' own as they were, the fields' as they are now -/
def back (O O' : Own) : Own := fun b => match O b with
  | some (.slot i) => some (.slot i)
  | _ => O' b
theorem back_slot {b : Addr} {i : Nat} (h : O b = some (.slot i)) : back O O' b = some (.slot i) := by unfold back; rw [h]
theorem back_none {b : Addr} (h : ¬ slots O b) : back O O' b = O' b := by
  unfold back
  cases e : O b with
  | none => rfl
  | some w =>
    cases w with
    | slot i => exact (h ⟨i, e⟩).elim
    | fld a f => rfl
theorem Rep.called (R : Rep X B E σ H r M O) (m : MemOk X.K (Bs B O) H' M' O') (s : Step (Mut M (drops O)) H (Mut M' O') H') : Rep X B E σ H' r M' (back O O') ∧ Step (Mut M O) H (Mut M' (back O O')) H' ∧ Av B M' (back O O') = Av (Bs B O) M' O' := by
  have hav : Av B M' (back O O') = Av (Bs B O) M' O' := by
    funext b
    apply propext
    by_cases hs : slots O b
    · obtain ⟨i, hi⟩ := hs
      exact ⟨fun _ => .inl (.inr ⟨i, hi⟩), fun _ => .inr (.inr (by rw [back_slot hi]; simp))⟩
    · unfold Av Mut Bs
      rw [back_none hs]
      constructor
      · rintro (h | h)
        · exact .inl (.inl h)
        · exact .inr h
      · rintro ((h | h) | h)
        · exact .inl h
        · exact (hs h).elim
        · exact .inr h
  have sl : ∀ {b : Addr} {o : HO}, slots O b → H b = some o → H' b = some o ∧ ¬ Mut M' O' b := fun {b o} hs e => s b o e fun z => by
    obtain ⟨i, hi⟩ := hs
    rcases z with z | z
    · cases q : M b with
      | none => exact z q
      | some mo => have := (R.m.mem b mo q).2.1; rw [hi] at this; cases this
    · unfold drops at z; rw [hi] at z; exact z rfl
  have sm : Step (Mut M O) H (Mut M' (back O O')) H' := fun b o e n => by
    have n1 : ¬ Mut M (drops O) b := fun z => n (mut_drops b z)
    obtain ⟨h1, h2⟩ := s b o e n1
    refine ⟨h1, fun z => ?_⟩
    have hs : ¬ slots O b := fun ⟨i, hi⟩ => n (.inr (by rw [hi]; simp))
    rcases z with z | z
    · exact h2 (.inl z)
    · rw [back_none hs] at z; exact h2 (.inr z)
  have sa : Step (Av B M O) H (Av B M' (back O O')) H' := fun b o e n =>
    have n1 : ¬ B b := fun z => n (.inl z)
    have ⟨h1, h2⟩ := sm b o e fun z => n (.inr z)
    ⟨h1, fun z => z.elim n1 h2⟩
  refine ⟨⟨⟨fun b mo e => ?_, fun b w e => ?_, fun b z => m.btr b (.inl z)⟩, R.len, fun i x e => ?_, R.ent.trans sm, R.sub, R.exc, R.lk, R.xe⟩, sm, hav⟩
  · obtain ⟨h1, h2, h3⟩ := m.mem b mo e
    have hs : ¬ slots O b := fun z => h1 (.inr z)
    refine ⟨fun z => h1 (.inl z), by rw [back_none hs]; exact h2, ?_⟩
    rw [hav]
    refine h3.stepS (Step.refl _ _) (fun _ e => e) fun l f q => ⟨?_, fun _ e => e⟩
    rw [back_none fun z => (m.own l _ q).1 (.inr z)]
    exact q
  · by_cases hs : slots O b
    · obtain ⟨i, hi⟩ := hs
      obtain ⟨h1, h2⟩ := R.m.own b _ hi
      refine ⟨h1, ?_⟩
      exact m.btr b (.inr ⟨i, hi⟩)
    · rw [back_none hs] at e
      exact ⟨fun z => (m.own b w e).1 (.inl z), (m.own b w e).2⟩
  · exact (R.sl i x e).stepS sa sm fun l q => ⟨back_slot q, fun o e => (sl ⟨i, q⟩ e).1⟩
def gCallM (fs : FS) (gs : GA) : GE := fun r M Q => gs r M fun ds M1 => fs ds M1 Q r.ex
def vks (ks : List AK) : Bool := ks.all fun k => match k with
  | .b => false
  | _ => true
theorem argsOkM {A U U' : Addr → Prop} {K : PySem.W.Frag} (hU : ∀ b, U' b → U b) : ∀ {ks : List AK} {vs : List V} {ds : List D}, vks ks = true → ArgsX K A U H ks vs ds → ArgsOk K A U' H ks vs ds
  | [], [], [], _, _ => trivial
  | .v :: _, _ :: _, _ :: _, h, q => ⟨q.1, argsOkM hU (by simpa [vks] using h) q.2⟩
  | .s :: _, _ :: _, _ :: _, h, q => by
    obtain ⟨⟨a, ns, e1, e2, h3⟩, q2⟩ := q
    exact ⟨⟨a, ns, e1, e2, h3.step (step_id fun b _ n z => n (hU b z))⟩, argsOkM hU (by simpa [vks] using h) q2⟩
  | .b :: _, _ :: _, _ :: _, h, _ => by simp [vks] at h
  | [], [], _ :: _, _, h => h.elim
  | [], _ :: _, [], _, h => h.elim
  | [], _ :: _, _ :: _, _, h => h.elim
  | _ :: _, [], [], _, h => h.elim
  | _ :: _, [], _ :: _, _, h => h.elim
  | _ :: _, _ :: _, [], _, h => h.elim
theorem callM_pre {fs : FS} (R : Rep X B E σ H r M O) {vs : List V} {ds : List D} (hk : vks ks = true) (ha : ArgsX X.K (Av B M O) (Mut M O) H ks vs ds) {Q : VK} (h : fs ds M (LE true false X B E σ r H M O Q) r.ex) (hmf : MonoF fs) : toSp X.K ks fs vs H Q (xk E.W) := by
  refine ⟨Bs B O, M, drops O, ds, ?_, drops_flds O, by rw [av_bs]; exact argsOkM (fun b z => mut_drops b z) hk ha, ?_⟩
  · refine ⟨fun b mo e => ?_, fun b w e => ?_, fun b z => ?_⟩
    · obtain ⟨h1, h2, h3⟩ := R.m.mem b mo e
      refine ⟨fun z => z.elim h1 fun ⟨i, hi⟩ => (by rw [hi] at h2; cases h2), by unfold drops; rw [h2], ?_⟩
      rw [av_bs]
      exact h3.stepS (Step.refl _ _) (fun _ e => e) fun l f q => ⟨by unfold drops; rw [q], fun _ e => e⟩
    · unfold drops at e
      split at e
      · rename_i q
        cases e
        obtain ⟨h1, h2⟩ := R.m.own b _ q
        exact ⟨fun z => z.elim h1 fun ⟨i, hi⟩ => (by rw [hi] at q; cases q), h2⟩
      · cases e
    · rcases z with z | ⟨i, hi⟩
      · exact R.m.btr b z
      · exact (R.m.own b _ hi).2
  · refine hmf _ _ _ _ _ _ (fun d M' q v H' O' h1 h2 h3 h4 => ?_) (fun C M' q H' O' h1 h2 h3 => ?_) h
    · obtain ⟨R', s', e'⟩ := R.called h1 h3
      refine q v H' _ R' ⟨fun z => (nomatch z), s'⟩ ?_
      rw [e']
      exact h4
    · obtain ⟨R', s', e'⟩ := R.called h1 h3
      refine ⟨C, rfl, rfl, R.exc C M' H' _ (R'.m.subB R.sub) R'.ent ?_⟩
      rw [← R.xe]
      exact q
theorem de_callM {n : Nat} {f : Addr} {fd : FuncData} {ps : List Str} {fs : FS} {x : Str} {pf : Pos} (F : FnG X.prog X.w X.K X.mg X.base n f fd ps (toSp X.K ks fs)) (hmf : MonoF fs) (hr : Room n X.A) (hgd : X.A.guards = some []) (hg : Gl X x) (hm : X.mg x = some (.ref f))
    (hk : PySem.W.keepIn X.K (.ref f) = true) (hb : Binds X.K fd ps []) (ha : DAk false X ks (e :: es) gs) (hv : vks ks = true := by rfl) (hdb : (x == ("__debug__" : Str)) = false := by decide) (he : starEach (e :: es) X.env = (false, eval e X.env) :: starEach es X.env := by rfl)
    (hpl : (backTo pos (starEach es X.env)).any (·.1) = false := by rfl) : DE true false X (.Call (.Name x pf) (e :: es) [] pos) (gCallM fs gs) := by
  refine ⟨⟨fun pins s σ H Q I ⟨B, E, r, M, O, R, q⟩ => ?_⟩, fun r M Q Q' h q => ha.mono _ _ _ _ (fun ds M1 q1 => hmf _ _ _ _ _ _ (fun d M' q2 => h _ _ q2) (fun C M' q2 => q2) q1) q⟩
  refine wpAny_Call_Name_kw (ld_glob I hg hm ?_ hdb)
  have hq := ha.on R q (Q := fun vs H1 => Passes (L2.CX X.prog X.w) X (xk E.W) ∧ toSp X.K ks fs vs H1 Q (xk E.W)) fun ds M1 vs H1 O1 k1 R1 l1 i1 => ⟨R1.ps, callM_pre R1 hv i1 (hmf _ _ _ _ _ _ (fun d M' q2 => LE.go l1 q2) (fun C M' q2 => q2) k1) hmf⟩
  refine PySem.W.callWith_K (h₀ := X.base) I.ok.mod.kin hk (thn (ha.run.run pos pins s σ H _ I hq) fun us s1 ⟨vs, H1, I1, r1, lk, qq⟩ => ⟨I1.kIn, ?_⟩) he hpl
  exact run_fg F hr hgd hb lk I1 r1 qq
end
end DL
set_option Elab.async false
set_option linter.all false
set_option maxRecDepth 100000
namespace DL
open PySem PySem.Spec PyProof.Rows L2
theorem cx_never {P : Program} {w : World} {outer : List Env} {H : Hp} {s : Shared} {e : Value} {s' : Shared} (h : L2.CX P w outer H s (fun _ _ _ => False) e s') : False := by
  obtain ⟨_, _, _, _, _, _, _, _, _, _, _, _, z⟩ := h
  exact z
structure Wor (fa : List He.Fa) (fn : List He.DefD) (K : PySem.W.Frag) (mg : Str → Option Value) : Prop where
  ex : ∃ h : Heap, K.In h ∧ h.Ns mainGlobals mg
  c : He.SaysD fa fn K
section
variable {fa : List He.Fa} {fn : List He.DefD} {K : PySem.W.Frag} {mg : Str → Option Value}
theorem Wor.free (W : Wor fa fn K mg) (i : Nat) {x : Str} (h : fa[i]? = some (.free x) := by rfl) : mg x = none :=
  let ⟨_, X, G⟩ := W.ex
  He.free_ok X G (W.c.fact i h)
theorem Wor.glo (W : Wor fa fn K mg) (i : Nat) {x : Str} (h : fa[i]? = some (.glo x) := by rfl) : mg x = some (.ref (He.ga K x)) :=
  let ⟨_, X, G⟩ := W.ex
  He.glo_ok X G (W.c.fact i h)
theorem Wor.int (W : Wor fa fn K mg) (i : Nat) {x : Str} {n : Int} (h : fa[i]? = some (.int x n) := by rfl) : ∃ t, mg x = some (.int n t) :=
  let ⟨_, X, G⟩ := W.ex
  He.int_ok X G (W.c.fact i h)
theorem Wor.str (W : Wor fa fn K mg) (i : Nat) {x z : Str} (h : fa[i]? = some (.str x z) := by rfl) : ∃ t, mg x = some (.str z t) :=
  let ⟨_, X, G⟩ := W.ex
  He.str_ok X G (W.c.fact i h)
end
/-- a class of its own over ValueError, that may be raised -/
structure ExCls (K : PySem.W.Frag) (mg : Str → Option Value) (x : Str) : Prop where
  g : mg x = some (.ref (He.ga K x))
  e : PySem.W.excIn K (He.ga K x) He.veBase "ValueError.__new__" = true ∧ PySem.W.keepIn K (.ref (He.ga K x)) = true ∧ PySem.W.subIn K (.ref (He.ga K x)) (.type "BaseException") = some true ∧ PySem.W.typeIn K (.ref (He.ga K x)) = some (.type "type")
theorem Wor.exc {fa : List He.Fa} {fn : List He.DefD} {K : PySem.W.Frag} {mg : Str → Option Value} (W : Wor fa fn K mg) (i : Nat) {x : Str} (h : fa[i]? = some (.glo x) := by rfl) (h2 : fa[i + 1]? = some (.exc x) := by rfl) : ExCls K mg x :=
  ⟨W.glo i h, He.exc_ok (W.c.fact (i + 1) h2)⟩
/-- a def's promise by its name -/
structure Def (P : Program) (w : World) (K : PySem.W.Frag) (mg : Str → Option Value) (base : Heap) (n : Nat) (x : Str) (ps : List Str) (ks : List AK) (fs : FS) : Prop where
  ex : ∃ f fd, FnG P w K mg base n f fd ps (toSp K ks fs) ∧ mg x = some (.ref f) ∧ PySem.W.keepIn K (.ref f) = true ∧ Binds K fd ps []
  mo : MonoF fs
theorem Wor.def_ {fa : List He.Fa} {fn : List He.DefD} {K : PySem.W.Frag} {mg : Str → Option Value} {P : Program} {w : World} {base : Heap} {k : Nat} {ks : List AK} {fs : FS} {N ps : List Str} {g : GS} (W : Wor fa fn K mg) (i : Nat) {x : Str} {st : Stmt}
    (S : FnScope N ps (defScope st)) (h : fn[i]? = some ⟨(x, none), x, x, defArgs st, defBody st, defScope st, [], []⟩ := by rfl) (h2 : fa[i]? = some (.glo x) := by rfl) (hk : ks.length = ps.length := by rfl)
    (hbd : ∀ (kV doc pm : Value) (an : Option Addr) (cdv ct : Value) (us : List Value), us.length = ps.length → bindArgs (PySem.W.fnOf x x (defArgs st) (defBody st) (defScope st) .none kV doc pm an cdv ct) ⟨us, []⟩ = pure (ps.zip us))
    (hmo : MonoF fs)
    (hbody : ∀ (f : Addr) (cdv : Value) (A : Around) (outer : List Env) (s : Shared) (H : Hp) (E : XK), Room k (A.deeper (envOfC x (defScope st) s.heap.objs.size f cdv)) → A.guards = some [] →
      DSs (cxOf (L2.CX P w) P w K mg base N x (defScope st) f cdv A outer s H E) (defBody st) g)
    (hfs : ∀ ds M Q X, fs ds M Q X → ds.length = ks.length → g { nx := fun _ M' => Q .non M', rt := Q } (entry N.length ks ds X) M) : Def P w K mg base (k + 1) x ps ks fs := by
  obtain ⟨fd, F⟩ := W.c.def_ i h
  have hx := W.glo i h2
  have F1 : Fun K x x st (He.ga K x) fd := He5.fun_of F
  exact ⟨⟨_, fd, d_fn F1 S hk (hbody (He.ga K x)) hfs, hx, F1.kp, F1.binds hbd⟩, hmo⟩
theorem Def.mono {P : Program} {w : World} {K : PySem.W.Frag} {mg : Str → Option Value} {base : Heap} {j n : Nat} {x : Str} {ps : List Str} {ks : List AK} {fs : FS} (D : Def P w K mg base j x ps ks fs) (h : j ≤ n := by decide) : Def P w K mg base n x ps ks fs :=
  let ⟨f, fd, F, q⟩ := D.ex
  ⟨⟨f, fd, F.mono h, q⟩, D.mo⟩
section
variable {X : Cx} {p : Bool} {e : Expr} {es : List Expr} {gs : GA} {pos pf : Pos} {n : Nat} {x : Str} {ps : List Str} {ks : List AK} {fs : FS}
theorem dc_p (F : Def X.prog X.w X.K X.mg X.base n x ps ks fs) (hr : Room n X.A) (hgd : X.A.guards = some []) (ha : DAk p X ks (e :: es) gs) (hg : Gl X x := by rfl) (hdb : (x == ("__debug__" : Str)) = false := by decide)
    (he : starEach (e :: es) X.env = (false, eval e X.env) :: starEach es X.env := by rfl) (hpl : (backTo pos (starEach es X.env)).any (·.1) = false := by rfl) : DE true p X (.Call (.Name x pf) (e :: es) [] pos) (gCallP fs gs) :=
  let ⟨_, _, F1, hm, hk, hb⟩ := F.ex
  de_callP F1 F.mo hr hgd hg hm hk hb ha hdb he hpl
theorem dc_m (F : Def X.prog X.w X.K X.mg X.base n x ps ks fs) (hr : Room n X.A) (hgd : X.A.guards = some []) (ha : DAk false X ks (e :: es) gs) (hg : Gl X x := by rfl) (hv : vks ks = true := by rfl) (hdb : (x == ("__debug__" : Str)) = false := by decide)
    (he : starEach (e :: es) X.env = (false, eval e X.env) :: starEach es X.env := by rfl) (hpl : (backTo pos (starEach es X.env)).any (·.1) = false := by rfl) : DE true false X (.Call (.Name x pf) (e :: es) [] pos) (gCallM fs gs) :=
  let ⟨_, _, F1, hm, hk, hb⟩ := F.ex
  de_callM F1 F.mo hr hgd hg hm hk hb ha hv hdb he hpl
def gRaise (C : Addr) : GS := fun _ r M => r.ex C M
theorem ds_raise {m : Str} {j : Nat} {p1 p2 : Pos} (T : ExCls X.K X.mg x) (hc : X.calm = true := by rfl) (hg : Gl X x := by rfl) (hdb : (x == ("__debug__" : Str)) = false := by decide) :
    DS X (.Raise (some (.Call (.Name x pf) [.Constant (.str m) j p2] [] p1)) none pos) (gRaise (He.ga X.K x)) := by
  refine ⟨⟨fun pins s σ H D I ⟨B, E, r, M, O, R, q⟩ => ?_⟩, fun D D' r M l q => q⟩
  refine (ps_raise (W := fun cls d _ H => xk E.W cls d H) hc R.lk (pmk_own PySem.F.excBase_ValueError T.e.1 T.g T.e.2.1 (raises_own T.e.2.2.1 T.e.2.2.2) hg hdb)).run pins s σ H D I ⟨_, rfl, rfl, R.exc _ M H O (R.m.subB R.sub) R.ent ?_⟩
  rw [← R.xe]
  exact q
end
theorem dg_int {X : Cx} {p : Bool} {x : Str} {n : Int} {pos : Pos} (h : ∃ t, X.mg x = some (.int n t)) (hg : Gl X x := by rfl) (hd : (x == ("__debug__" : Str)) = false := by decide) : DE true p X (.Name x pos) (gC (.int n)) :=
  let ⟨t, e⟩ := h
  de_glob (v := .int n) hg e ⟨t, rfl⟩ (fun _ _ => .int n) hd
end DL
set_option Elab.async false
set_option linter.all false
set_option maxRecDepth 100000
namespace DL
open PySem PySem.Spec PyProof.Rows L2
section
variable {X : Cx} {w p w1 w2 : Bool} {e a b c : Expr} {es : List Expr} {g ga gb gc : GE} {gf : GF} {gs : GA} {B : Addr → Prop} {E : En} {σ : L2.St} {H H' : Hp} {r : Fr} {M M' : Mem} {O O' : Own} {pos pos' : Pos} {l : Addr}
theorem mut_mup {m : MO} (hm : M l ≠ none) : Mut (mup M l m) O = Mut M O := by
  funext b
  apply propext
  unfold Mut
  by_cases h : b = l
  · subst h; rw [mup_same]; simp [hm]
  · rw [mup_ne h]
theorem av_mup {m : MO} (hm : M l ≠ none) : Av B (mup M l m) O = Av B M O := by
  funext b
  unfold Av
  rw [mut_mup hm]
theorem Rep.mutM (R : Rep X B E σ H r M O) {u : HO} {m m' : MO} (hm : M l = some m) (hu : MOk X.K (Av B M O) (upd H l u) O l m') :
    Rep X B E σ (upd H l u) r (mup M l m') O ∧ Step (Mut M O) H (Mut (mup M l m') O) (upd H l u) := by
  have nm : M l ≠ none := by rw [hm]; simp
  obtain ⟨nB, nO, _⟩ := R.m.mem l m hm
  have mA : Mut M O l := .inl nm
  have keep : ∀ {b : Addr} {o : HO}, b ≠ l → H b = some o → upd H l u b = some o := fun {b o} h e => by rw [upd_ne h]; exact e
  have s : ∀ {A : Addr → Prop}, A l → Step A H A (upd H l u) := fun hA b o e nb => ⟨keep (fun z => nb (by rw [z]; exact hA)) e, nb⟩
  have nown : ∀ {b : Addr} {w : Ow}, O b = some w → b ≠ l := fun {b w} e z => by subst z; rw [nO] at e; cases e
  refine ⟨⟨⟨fun b mo e => ?_, fun b w e => ?_, fun b z => ?_⟩, R.len, fun j sl e => ?_, ?_, R.sub, R.exc, R.lk, R.xe⟩, ?_⟩
  · rw [av_mup nm]
    by_cases hb : b = l
    · subst hb
      rw [mup_same] at e
      cases e
      exact ⟨nB, nO, hu⟩
    · rw [mup_ne hb] at e
      obtain ⟨h1, h2, h3⟩ := R.m.mem b mo e
      exact ⟨h1, h2, h3.stepS (s (.inr mA)) (fun o e => keep hb e) fun l' f q => ⟨q, fun o e => keep (nown q) e⟩⟩
  · obtain ⟨h1, h2⟩ := R.m.own b w e
    refine ⟨h1, ?_⟩
    rw [upd_ne (nown e)]
    exact h2
  · have q := R.m.btr b z
    rw [upd_ne (fun y => nB (by rw [← y]; exact z))]
    exact q
  · show SlU X.K (Av B (mup M l m') O) (Mut (mup M l m') O) O (upd H l u) j _ sl
    rw [av_mup nm, mut_mup nm]
    exact (R.sl j sl e).stepS (s (.inr mA)) (s mA) fun l' q => ⟨q, fun o e => keep (nown q) e⟩
  · rw [mut_mup nm]
    exact R.ent.trans (s mA)
  · rw [mut_mup nm]
    exact s mA
/-- d[k], d in memory (or data) -/
def gMGet (ga gb : GE) : GE := fun r M Q => ga r M fun d M1 => gb r M1 fun e M2 => match d, keyD e with
  | .ref l, some k => (match M2 l with
    | some (.om (.dic kds)) => (match valD kds k with
      | some v => Q v M2
      | none => False)
    | _ => False)
  | .dic kds, some k => (match valD kds k with
    | some v => Q v M2
    | none => False)
  | _, _ => False
theorem de_mget (hu : X.A.units + 1 < cLine) (ha : DE true p X a ga) (hb : DE true p X b gb) (hs : NoSl b := by intro _ _; rfl) : DE true p X (.Subscript a b pos) (gMGet ga gb) := by
  refine ⟨peI (pe_dget hu ha.run hb.run hs) fun σ H Q ⟨B, E, r, M, O, R, q⟩ => ?_, fun r M Q Q' h q => ha.mono _ _ _ _ (fun d M1 q1 => hb.mono _ _ _ _ (fun e M2 q2 => ?_) q1) q⟩
  · refine ha.on R q fun d M1 v H1 O1 k1 R1 l1 i1 => ?_
    refine hb.on R1 k1 fun e M2 u H2 O2 k2 R2 l2 i2 => ?_
    have i1' : Is X.K (Av B M2 O2) H2 v d := Is.step l2.avs i1
    have i2' : Is X.K (Av B M2 O2) H2 u e := i2
    split at k2
    · rename_i l k ek
      cases i1'
      have ku := keyD_kV ek i2'
      subst ku
      split at k2
      · rename_i kds em
        obtain ⟨_, _, kvs, e1, e2⟩ := R2.m.mem _ _ em
        split at k2
        · rename_i v ev
          obtain ⟨x, f1, f2⟩ := (e2.val (k := k)).1 v ev
          exact ⟨_, x, rfl, .inl ⟨kvs, k, .inl e1, rfl, f1.symm⟩, k2 x H2 O2 R2 (l1.trans l2) f2⟩
        · exact k2.elim
      · exact k2.elim
    · rename_i kds k ek
      have ku := keyD_kV ek i2'
      subst ku
      split at k2
      · rename_i v ev
        cases i1' with
        | @dic l kvs _ e1 e2 =>
          obtain ⟨x, f1, f2⟩ := (e2.val (k := k)).1 v ev
          exact ⟨_, x, rfl, .inl ⟨kvs, k, .inr e1.2, rfl, f1.symm⟩, k2 x H2 O2 R2 (l1.trans l2) f2⟩
      · exact k2.elim
    · exact k2.elim
  · split at q2
    · split at q2
      · split at q2
        · exact h _ _ q2
        · exact q2
      · exact q2
    · split at q2
      · exact h _ _ q2
      · exact q2
    · exact q2
/-- d[k] = v, d in memory -/
def gMPut (ga gb gc : GE) : GS := fun D r M => gc r M fun v M1 => ga r M1 fun d M2 => gb r M2 fun e M3 => match d, keyD e with
  | .ref l, some k => (match M3 l with
    | some (.om (.dic kds)) => kds.length < sizeLine ∧ D.nx r (mup M3 l (.om (.dic (putD kds k v))))
    | _ => False)
  | _, _ => False
theorem ds_mput (hu : X.A.units + 1 < cLine) (ha : DE true p X a ga) (hb : DE true p X b gb) (hc : DE true p X c gc) (hs : swapsWith c (some (.Subscript a b pos')) pos.line X.env = pure false := by rfl) : DS X (.Assign [.Subscript a b pos'] c pos) (gMPut ga gb gc) := by
  refine ⟨psI (ps_dput hu ha.run hb.run hc.run hs) fun D σ H ⟨B, E, r, M, O, R, q⟩ => ?_, fun D D' r M l q => hc.mono _ _ _ _ (fun v M1 q1 => ha.mono _ _ _ _ (fun d M2 q2 => hb.mono _ _ _ _ (fun e M3 q3 => ?_) q2) q1) q⟩
  · refine hc.on R q fun z M1 x H1 O1 k1 R1 l1 i1 => ?_
    refine ha.on R1 k1 fun d M2 v H2 O2 k2 R2 l2 i2 => ?_
    refine hb.on R2 k2 fun e M3 u H3 O3 k3 R3 l3 i3 => ?_
    have i1' : Is X.K (Av B M3 O3) H3 x z := Is.step (l2.trans l3).avs i1
    have i2' : Is X.K (Av B M3 O3) H3 v d := Is.step l3.avs i2
    have i3' : Is X.K (Av B M3 O3) H3 u e := i3
    split at k3
    · rename_i l k ek
      cases i2'
      have ku := keyD_kV ek i3'
      subst ku
      split at k3
      · rename_i kds em
        obtain ⟨_, _, kvs, e1, e2⟩ := R3.m.mem _ _ em
        refine ⟨_, _, rfl, .inl ⟨kvs, k, e1, rfl, by rw [e2.len]; exact k3.1, rfl⟩, ?_⟩
        refine k3.2 _ _ O3 (R3.mutM (m' := .om (.dic (putD kds k z))) em ⟨putK kvs k x, upd_same, ?_⟩).1
        refine IsK.step (fun b o eb nb => ⟨?_, nb⟩) (e2.put i1')
        rw [upd_ne fun z => nb (by rw [z]; exact .inr (.inl (by rw [em]; simp)))]
        exact eb
      · exact k3.elim
    · exact k3.elim
  · split at q3
    · split at q3
      · exact ⟨q3.1, l.nx _ _ q3.2⟩
      · exact q3
    · exact q3
abbrev GPs := Fr → Mem → (List (Key × D) → Mem → Prop) → Prop
structure DPs (p : Bool) (X : Cx) (pos : Pos) (keys : List (Option Expr)) (values : List Expr) (g : GPs) : Prop where
  ex : ∃ trs, PPs X pos keys values trs ∧ ∀ B E σ H r M O k Q, Rep X B E σ H r M O → g r M k →
    (∀ kds M1 H1 O1 kvs, k kds M1 → Rep X B E σ H1 r M1 O1 → Rl p M O H M1 O1 H1 → IsK X.K (Av B M1 O1) H1 kvs kds → Q (kvs.map fun kv => (kV kv.1, kv.2)) H1) → tPairs trs σ H Q
  mono : ∀ r M Q Q', (∀ d M', Q d M' → Q' d M') → g r M Q → g r M Q'
  len : ∀ r M Q, g r M Q → g r M fun ds M1 => ds.length = keys.length ∧ Q ds M1
def gPnil : GPs := fun r M Q => Q [] M
def gPcons (x : Str) (g : GE) (gs : GPs) : GPs := fun r M Q => g r M fun d M1 => gs r M1 fun kds M2 => Q ((.inr x, d) :: kds) M2
theorem dps_nil : DPs p X pos [] [] gPnil := ⟨⟨[], pps_nil, fun B E σ H r M O k Q R q h => h [] M H O [] q R Rl.refl .nil⟩, fun r M Q Q' h q => h _ _ q, fun r M Q q => ⟨rfl, q⟩⟩
theorem dps_cons {x : Str} {j : Nat} {kp : Pos} {ks : List (Option Expr)} {gp : GPs} (ha : DE true p X a ga) (hr : DPs p X pos ks es gp) : DPs p X pos (some (.Constant (.str x) j kp) :: ks) (a :: es) (gPcons x ga gp) := by
  obtain ⟨trs, h1, h2⟩ := hr.ex
  refine ⟨⟨_, pps_cons (pe_str (pos := kp)) ha.run h1, fun B E σ H r M O k Q R q h => ?_⟩, fun r M Q Q' h q => ha.mono _ _ _ _ (fun d M1 q1 => hr.mono _ _ _ _ (fun kds M2 q2 => h _ _ q2) q1) q,
    fun r M Q q => ha.mono _ _ _ _ (fun d M1 q1 => hr.mono _ _ _ _ (fun kds M2 q2 => ⟨congrArg (· + 1) q2.1, q2.2⟩) (hr.len _ _ _ q1)) q⟩
  refine ha.on R q fun d M1 v H1 O1 k1 R1 l1 i1 => ?_
  refine h2 B E σ H1 r M1 O1 _ _ R1 k1 fun kds M2 H2 O2 kvs k2 R2 l2 i2 => ?_
  exact h ((.inr x, d) :: kds) M2 H2 O2 ((.inr x, v) :: kvs) k2 R2 (l1.trans l2) (.cons (Is.step l2.avs i1) i2)
def gDisp (gp : GPs) : GF := fun r M Q => gp r M fun kds M1 => Q (.dic (mergeD [] kds)) M1
theorem df_disp {keys : List (Option Expr)} {gp : GPs} (h : DPs p X pos keys es gp) (hall : keys.all (·.isSome) = true := by rfl) (hl : keys.length = es.length := by rfl) (h0 : keys ≠ [] := by simp) (h15 : keys.length ≤ 15 := by decide) : DF p X (.Dict keys es pos) (gDisp gp) := by
  obtain ⟨trs, h1, h2⟩ := h.ex
  refine ⟨peI (pe_disp h1 hall hl h0 h15) fun σ H Q ⟨B, E, r, M, O, R, q⟩ => ?_, fun r M Q Q' hh q => h.mono r M _ _ (fun kds M1 q1 => hh _ _ q1) q⟩
  intro a n
  have N := New.of R n (o := .dK [])
  refine h2 (Bp B a) E σ (upd H a (.dK [])) r M O _ _ N.rep (h.len _ _ _ q) fun kds M1 H1 O1 kvs k1 R1 l1 i1 => ?_
  have eb : H1 a = some (.dK []) := (l1.2 a _ upd_same fun z => N.nav (.inr z)).1
  have N1 : New X B E σ H1 r M1 O1 a := N.next (l := l1) R1 (by rw [upd_same]; simp)
  refine ⟨eb, kvs, rfl, by rw [i1.len, k1.1]; exact h15, ?_⟩
  have s1 : Step (Up (Av B M1 O1) a) H1 (Up (Av B M1 O1) a) (upd H1 a (.dK (mergeK [] kvs))) := fun b o e nb => ⟨by rw [upd_ne (fun z => nb (.inr z))]; exact e, nb⟩
  have s2 : Step (Up (Mut M1 O1) a) H1 (Up (Mut M1 O1) a) (upd H1 a (.dK (mergeK [] kvs))) := fun b o e nb => ⟨by rw [upd_ne (fun z => nb (.inr z))]; exact e, nb⟩
  have nOM : ∀ b, Mut M1 O1 b → b ≠ a := fun b z y => N1.nav (.inr (by rw [← y]; exact z))
  have keep : ∀ {b : Addr} {o : HO}, b ≠ a → H1 b = some o → upd H1 a (.dK (mergeK [] kvs)) b = some o := fun {b o} h e => by rw [upd_ne h]; exact e
  have N2 : New X B E σ (upd H1 a (.dK (mergeK [] kvs))) r M1 O1 a := by
    refine ⟨⟨fun b mo e => ?_, fun b w e => ?_, fun b z => ?_⟩, N1.len, fun i sl e => (N1.sl i sl e).stepS s1 s2 fun l q => ⟨q, fun o e => keep (nOM l (.inr (by rw [q]; simp))) e⟩, N1.ent.trans s2, N1.sub, N1.exc, N1.lk, N1.xe, N1.nav⟩
    · obtain ⟨f1, f2, f3⟩ := N1.m.mem b mo e
      refine ⟨f1, f2, ?_⟩
      rw [av_up] at f3 ⊢
      exact f3.stepS s1 (fun o e => keep (nOM b (.inl (by rw [‹M1 b = some mo›]; simp))) e) fun l f q => ⟨q, fun o e => keep (nOM l (.inr (by rw [q]; simp))) e⟩
    · obtain ⟨f1, f2⟩ := N1.m.own b w e
      refine ⟨f1, ?_⟩
      rw [upd_ne (nOM b (.inr (by rw [e]; simp)))]
      exact f2
    · have f := N1.m.btr b z
      by_cases hb : b = a
      · rw [hb, upd_same]; simp
      · rw [upd_ne hb]; exact f
  refine k1.2 a _ O1 N2 ?_ ⟨mergeK [] kvs, upd_same, ?_⟩
  · refine ⟨fun hp => ?_, ?_⟩
    · obtain ⟨e1, e2, e3⟩ := l1.1 hp
      refine ⟨e1, e2, fun b o e => ?_⟩
      have nb : b ≠ a := ne_of_none e n
      rw [upd_ne nb]
      exact e3 b o (by rw [upd_ne nb]; exact e)
    · intro b o e nb
      have ne : b ≠ a := ne_of_none e n
      have f := l1.2 b o (by rw [upd_ne ne]; exact e) nb
      exact ⟨by rw [upd_ne ne]; exact f.1, f.2⟩
  · have i2 := i1.merge (kvs := []) (kds := []) .nil
    rw [av_up] at i2
    exact i2.step s1
theorem av_mupN {m : MO} : Av B (mup M l m) O = Up (Av B M O) l := by
  funext b
  apply propext
  unfold Av Mut Up
  by_cases h : b = l
  · subst h; rw [mup_same]; simp
  · rw [mup_ne h]; simp [h, Av, Mut]
theorem mut_mupN {m : MO} : Mut (mup M l m) O = Up (Mut M O) l := by
  funext b
  apply propext
  unfold Mut Up
  by_cases h : b = l
  · subst h; rw [mup_same]; simp
  · rw [mup_ne h]; simp [h, Mut]
theorem New.toMem (N : New X B E σ H r M O l) {m : MO} (hm : MOk X.K (Up (Av B M O) l) H O l m) : Rep X B E σ H r (mup M l m) O := by
  have nO : O l = none := by
    cases e : O l with
    | none => rfl
    | some w => exact (N.nav (.inr (.inr (by rw [e]; simp)))).elim
  refine ⟨⟨fun b mo e => ?_, fun b w e => ?_, fun b z => N.m.btr b (.inl z)⟩, N.len, fun j sl e => ?_, ?_, N.sub, N.exc, N.lk, N.xe⟩
  · rw [av_mupN]
    by_cases hb : b = l
    · subst hb
      rw [mup_same] at e
      cases e
      exact ⟨fun z => N.nav (.inl z), nO, hm⟩
    · rw [mup_ne hb] at e
      obtain ⟨h1, h2, h3⟩ := N.m.mem b mo e
      rw [av_up] at h3
      exact ⟨fun z => h1 (.inl z), h2, h3⟩
  · obtain ⟨h1, h2⟩ := N.m.own b w e
    exact ⟨fun z => h1 (.inl z), h2⟩
  · show SlU X.K (Av B (mup M l m) O) (Mut (mup M l m) O) O H j _ sl
    rw [av_mupN, mut_mupN]
    exact N.sl j sl e
  · rw [mut_mupN]
    exact N.ent
def gRetM (gf : GF) : GS := fun D r M => gf r M fun m M1 => ∀ a, M1 a = none → D.rt (.ref a) (mup M1 a (.om m))
theorem New.mnone (N : New X B E σ H r M O l) : M l = none := by
  cases e : M l with
  | none => rfl
  | some w => exact (N.nav (.inr (.inl (by rw [e]; simp)))).elim
theorem ds_retM (he : DF p X e gf) : DS X (.Return (some e) pos) (gRetM gf) := by
  refine ⟨psI (ps_ret he.run) fun D σ H ⟨B, E, r, M, O, R, q⟩ => ?_, fun D D' r M l q => he.mono _ _ _ _ (fun m M1 q1 a h => l.rt _ _ (q1 a h)) q⟩
  refine he.on R q fun m M1 a H1 O1 k1 N1 l1 i1 => ?_
  have R1 := N1.toMem (m := .om m) i1
  exact k1 a N1.mnone (.ref a) H1 O1 R1.m R1.ent (.ref a)
def gSetM (i : Nat) (gf : GF) : GS := fun D r M => gf r M fun m M1 => ∀ a, M1 a = none → D.nx (r.set i (.v (.ref a))) (mup M1 a (.om m))
end
theorem st_open {K : PySem.W.Frag} {B : Addr → Prop} {H : Hp} {M : Mem} {O : Own} {a : Addr} (m : MemOk K B H M O) (h : M a = some .st) : ∃ kds, StOk kds ∧ MemOk K B H (mup M a (.om (.dic kds))) O := by
  have nm : M a ≠ none := by rw [h]; simp
  obtain ⟨h1, h2, kds, h3, h4⟩ := m.mem a _ h
  refine ⟨kds, h3, fun b mo e => ?_, m.own, m.btr⟩
  rw [av_mup nm]
  by_cases hb : b = a
  · subst hb
    rw [mup_same] at e
    cases e
    exact ⟨h1, h2, h4⟩
  · rw [mup_ne hb] at e
    exact m.mem b mo e
theorem st_close {K : PySem.W.Frag} {B : Addr → Prop} {H : Hp} {M : Mem} {O : Own} {a : Addr} {kds : List (Key × D)} (m : MemOk K B H (mup M a (.om (.dic kds))) O) (h : StOk kds) : MemOk K B H (mup M a .st) O := by
  have e2 : mup M a .st = mup (mup M a (.om (.dic kds))) a .st := mup_mup.symm
  rw [e2]
  have nm : (mup M a (.om (.dic kds))) a ≠ none := by rw [mup_same]; simp
  obtain ⟨h1, h2, h4⟩ := m.mem a _ mup_same
  refine ⟨fun b mo e => ?_, m.own, m.btr⟩
  rw [av_mup nm]
  by_cases hb : b = a
  · subst hb
    rw [mup_same] at e
    cases e
    exact ⟨h1, h2, kds, h, h4⟩
  · rw [mup_ne hb] at e
    exact m.mem b mo e
end DL
set_option Elab.async false
set_option linter.all false
set_option maxRecDepth 100000
namespace PySem
open Sem (wp)
/-- enumerate(v), v begun by o -/
theorem dl_enumerate_new {v : Value} {o : Obj} {Hh : Heap → Prop} (B : Begins v o Hh) :
    Meets (Builtin.«enumerate.__new__» ⟨[.type "enumerate", v], []⟩) (fun _ R s => Hh s.heap ∧ R (.ok (.ret (.ref (s.heap.push o).objs.size)))
      { s with heap := (s.heap.push o).push { cls := .type "enumerate", data := .fields #[.none, .bool false, .ref s.heap.objs.size, rawInt 0, .none, .none] } }) :=
  .of_wp fun prog w A R s q => by
    obtain ⟨hp, g, d, tk, os⟩ := s
    obtain ⟨q1, q2⟩ := q
    have hsub := sub_enumerate
    have it : ∀ {A' : Around} {E Q : Value → Shared → Prop}, Q (.ref hp.objs.size) ⟨hp.push o, g, d, tk, os⟩ → wpAny (model prog w) A' (pyIter v) Q E ⟨hp, g, d, tk, os⟩ := fun z => B.iter prog w _ _ ⟨hp, g, d, tk, os⟩ _ q1 z
    wp_walk using it
    refine wpAny_stack_any fun st => wpAny_pure ?_
    split
    · rename_i c _ _ _ _ _
      cases (c == Value.type "enumerate") <;> (wp_walk using it; exact ⟨_, rfl, q2⟩)
    · wp_walk using it
      exact ⟨_, rfl, q2⟩
theorem dl_call_enumerate {prog : Program} {w : World} {A : Around} {E : Value → Shared → Prop} {s : Shared} {v : Value} {o : Obj} {Hh : Heap → Prop} {Q : Value → Shared → Prop} (B : Begins v o Hh) (h1 : Hh s.heap)
    (h : ∀ h', IsEnum h' (s.heap.objs.size + 1) s.heap.objs.size 0 .none → h'.get? s.heap.objs.size = some o → (∀ b ob, s.heap.get? b = some ob → h'.get? b = some ob) → Q (.ref (s.heap.objs.size + 1)) { s with heap := h' }) :
    wpAny (model prog w) A (call (.type "enumerate") [v]) Q E s := by
  refine callType_new F.called_enumerate (by decide) (F.typeCall_enumerate_1 _) (F.newCall_enumerate_1 _) (fun ob => F.args_object_init_2 ob _) F.entry_enumerate_new (dl_enumerate_new B) ⟨h1, ?_⟩
  have hz : (s.heap.push o).objs.size = s.heap.objs.size + 1 := Heap.size_push ..
  show _ ∧ _
  rw [hz]
  have he := Heap.get?_push_size (s.heap.push o) (o := { cls := .type "enumerate", data := .fields #[.none, .bool false, .ref s.heap.objs.size, rawInt 0, .none, .none] }) rfl
  rw [hz] at he
  exact ⟨⟨_, he, rfl⟩, h _ he (Heap.get?_push_of_some _ (Heap.get?_push_size _ B.free)) fun b ob x => Heap.get?_push_of_some _ (Heap.get?_push_of_some _ x)⟩
theorem dl_draws_tuple {prog : Program} {w : World} {A : Around} (hh : A.handled = none) (it l : Addr) (hne : l ≠ it) (items : Array Value) :
    Draws prog w A it [it, l] items.size (fun i v => items[i]? = some v) (fun i h => h.IsTupleIter it l i ∧ h.IsTuple l items) where
  live := fun _ _ ⟨⟨o, ho, _⟩, _⟩ => ⟨o, ho⟩
  frame := fun _ _ _ ⟨s1, s2⟩ k => ⟨s1.at fun o e => k it (by simp) o e, s2.at fun o e => k l (by simp) o e⟩
  item := fun i s Q E hi ⟨s1, s2⟩ hQ =>
    RZ.nextOf_tuple_item s1 s2 (x := items[i]) (by simp [hi]) fun h' z1 z2 => hQ _ h' s.toks (by simp [hi]) ⟨z1, s2.extBut z2.extBut hne⟩ z2
  done := fun s Q E ⟨s1, s2⟩ hE => RZ.nextOf_tuple_end hh s1 s2 (by simp) hE
end PySem
namespace DL
open PySem PySem.Spec PyProof.Rows L2
def IteT (K : PySem.W.Frag) (a : Addr) : It where
  go := fun i H => ∃ (xs : List V) (x : V), SqT K H a xs ∧ xs[i]? = some x
  yld := fun i H v H' => ∃ T o x, v = .ref T ∧ o.dict = none ∧ H T = none ∧ H' = upd H T (.frz o (.tup [.int (i : Nat), x])) ∧ ∀ xs, SqT K H a xs → xs[i]? = some x
  stop := fun i H => ∃ xs : List V, SqT K H a xs ∧ xs.length ≤ i
theorem turn_enumT {P : Program} {w : World} {K : PySem.W.Frag} {elts : List Expr} {kk : Nat} {tpos : Pos} (a e it : Addr) :
    Turn P w K (.Tuple elts kk tpos) (IteT K a) [e, it] e (fun i h => (∃ old, IsEnum h e it ((i : Nat) : Int) old) ∧ h.IsTupleIter it a i ∧ e ≠ it ∧ e ≠ a ∧ a ≠ it) where
  mem := List.mem_cons_self ..
  obj := by
    rintro i h ⟨⟨old, he⟩, ⟨o, ho, hc, hd⟩, _⟩ b hb
    rcases (by simpa using hb : b = e ∨ b = it) with rfl | rfl
    · exact ⟨_, he, fun v q => nomatch q⟩
    · exact ⟨o, ho, fun v q => by rw [hd] at q; cases q⟩
  keep := fun i h h' ⟨⟨old, he⟩, hi, hne⟩ k => ⟨⟨old, k e (by simp) _ he⟩, hi.at fun o q => k it (by simp) o q, hne⟩
  item := by
    intro X hP hw hK hc i pins s σ H E I hf st hg
    subst hP hw hK
    obtain ⟨⟨old, he⟩, hit, n1, n2, n3⟩ := st
    obtain ⟨xs, x, hq, hx⟩ := hg
    obtain ⟨its, rv, p, hz⟩ := I.tuple hq
    obtain ⟨u, hu, ru⟩ := rv.get hx
    have pT : s.heap.IsTuple a its.toArray := p
    have hlt : i < its.toArray.size := by
      obtain ⟨z, _⟩ := List.getElem?_eq_some_iff.mp hu
      simpa using z
    have hel : e < s.heap.objs.size := Heap.lt_size he
    have hil : it < s.heap.objs.size := by
      obtain ⟨_, q, _⟩ := hit
      exact Heap.lt_size q
    refine wpAny_pyNext_enum_itemD (dl_draws_tuple (prog := X.prog) (w := X.w) (A := X.A.in1) (I.ok.hd hc) it a n3 its.toArray) he ⟨hit, pT⟩ hlt n1 (by simp [n1, n2]) fun y h' tk hy ho hst hT hsz hk => ?_
    have hy2 : its.toArray[i]? = some u := by simpa using hu
    rw [hy2] at hy
    cases hy
    refine ⟨_, rfl, wpAny_letOwnedTupleGo_enum (s := { s with heap := h', toks := tk + 1 }) ho fun h2 he2 sb => ?_⟩
    have hT2 : h2.get? s.heap.objs.size = some { cls := .type "tuple", data := .seq #[.int i tk, u] } := (sb.2 _ (Nat.ne_of_gt hel)).trans hT
    have I1 := I.turnedNew (t' := tk + 1) (ob := .frz _ (.tup [.int (i : Nat), x])) (ch := [e, it]) (fun b ob hb q => (sb.2 b (fun z => hb (by rw [z]; exact List.mem_cons_self ..))).trans (hk b ob (fun z => hb (by rw [z]; exact List.mem_cons_self ..)) (fun z => hb (by simp [z])) q)) hf (Nat.le_refl _)
      ⟨hT2, by show 2 ≤ sizeLine; decide, [.int i tk, u], .cons ⟨_, rfl⟩ (.cons ru .nil), ⟨_, hT2, rfl, _, rfl⟩⟩
    refine ⟨.ref s.heap.objs.size, _, I1, rfl, ⟨_, _, x, rfl, rfl, I.hok.fresh (Nat.le_refl _), rfl, fun ys hys => by rw [I.tuple_inj hys hq]; exact hx⟩, ⟨⟨u, ?_⟩, hst.1.at fun o q => (sb.2 it (Ne.symm n1)).trans q, n1, n2, n3⟩, fun b hb => ?_⟩
    · rw [show ((i + 1 : Nat) : Int) = (i : Int) + 1 by omega]
      exact he2
    · rw [upd_ne]
      · exact (hf b hb).1
      · rcases (by simpa using hb : b = e ∨ b = it) with rfl | rfl
        · exact Nat.ne_of_lt hel
        · exact Nat.ne_of_lt hil
  done := by
    intro X hP hw hK hc i pins s σ H E I hf st hg
    subst hP hw hK
    obtain ⟨⟨old, he⟩, hit, n1, n2, n3⟩ := st
    obtain ⟨xs, hq, hx⟩ := hg
    obtain ⟨its, rv, p, hz⟩ := I.tuple hq
    have pT : s.heap.IsTuple a its.toArray := p
    obtain ⟨f0, f1, f2, f3, f4, f5⟩ := hf it (by simp)
    have hT : s.TypeIs (.ref e) "enumerate" := ⟨_, he, rfl⟩
    unfold pyNext
    refine wpAny_bind (wpAny_attempt (wpAny_callSpecial?_slot (name := Str.ofString "__next__") hT F.slot_enumerate_next (wpAny_call_entry F.slot_enumerate_next hT F.entry_enumerate_next ?_ (F.args_enumerate_next_1 _))))
    show wpAny _ _ (field (.ref e) 2 >>= _) _ _ _
    refine wpAny_bind (wpAny_field he rfl (x := .ref it) rfl ?_)
    refine wpAny_bind (RZ.nextOf_tuple_end (I.ok.hd hc) hit pT (by have hl := rv.length; simp; omega) fun h' y ex hy => ?_)
    obtain ⟨o, ho, hcl⟩ := hy
    refine wpAny_bind (wpAny_isInstance (T := "StopIteration") (b := true) ⟨o, ho, hcl⟩ isSubtype_stop ?_)
    exact wpAny_pure ⟨rfl, I.turned (t' := s.toks) (fun b o hb q => ex b o hb q) f0 f1 f3 f4 f5⟩
  self := fun A i s Q E ⟨⟨_, he⟩, _⟩ h => wpAny_pyIter_enum he h
def iSeq (K : PySem.W.Frag) (tl : TE) : TI := fun σ H R => tl σ H fun v H1 => ∃ (a : Addr) (xs : List V), v = .ref a ∧ ((SqL K H1 a xs ∧ R (Itl K a) H1) ∨ (SqT K H1 a xs ∧ R (Itt K a) H1))
def iEnumA (K : PySem.W.Frag) (ta : TA) : TI := fun σ H R => ta σ H fun vs H1 => ∃ (a : Addr) (xs : List V), vs = [.ref a] ∧ ((SqL K H1 a xs ∧ R (IteF K a) H1) ∨ (SqT K H1 a xs ∧ R (IteT K a) H1))
section
variable {X : Cx} {tg e : Expr} {te : TE}
theorem pi_seq (he : PE X e te) : PI X tg e (iSeq X.K te) := by
  refine ⟨fun pins s σ H R I h => thn (he.run pins s σ H _ I h) fun u s1 ⟨v, H1, I1, r1, a, xs, ev, q⟩ => ?_⟩
  subst ev
  cases r1
  have fr : ∀ b ∈ [s1.heap.objs.size], FpOk X pins H1 b := fun b hb => by
    rw [List.mem_singleton.mp hb]
    exact I1.fpOk (Nat.le_refl _) (I1.hok.fresh (Nat.le_refl _))
  rcases q with ⟨hq, q⟩ | ⟨hq, q⟩
  · obtain ⟨its, rv, p, hz⟩ := I1.list hq
    exact wpAny_pyIter_list p.isList ⟨s1.heap.objs.size, [s1.heap.objs.size], _, _, H1, rfl, I1.kept (t' := s1.toks) fun b o z => Heap.get?_push_of_some _ z, turn_list a _, ⟨_, Heap.get?_push_size _ rfl, rfl, rfl⟩, fr, q⟩
  · obtain ⟨its, rv, p, hz⟩ := I1.tuple hq
    exact wpAny_pyIter_tuple (show s1.heap.IsTuple a its.toArray from p) ⟨s1.heap.objs.size, [s1.heap.objs.size], _, _, H1, rfl, I1.kept (t' := s1.toks) fun b o z => Heap.get?_push_of_some _ z, turn_tuple a _, ⟨_, Heap.get?_push_size _ rfl, rfl, rfl⟩, fr, q⟩
theorem pi_enumA {ta : TA} {p pos tpos : Pos} {elts : List Expr} {kk : Nat} (hg : Gl X "enumerate") (hm : X.mg "enumerate" = none) (ha : PA X [e] ta) (hs : starEach [e] X.env = [(false, eval e X.env)] := by rfl) :
    PI X (.Tuple elts kk tpos) (.Call (.Name "enumerate" p) [e] [] pos) (iEnumA X.K ta) := by
  refine ⟨fun pins s σ H R I h => ?_⟩
  refine Call_ (ld_blt I hg hm boot_enumerate (PyProof.Rows.callWith_type1 (thn (ha.run pos pins s σ H _ I h) fun us s1 ⟨vs, H1, I1, r1, a, xs, ex, q⟩ => ?_) hs rfl))
  subst ex
  cases r1 with
  | cons r rr =>
    cases rr
    cases r
    have fr : ∀ b ∈ [s1.heap.objs.size + 1, s1.heap.objs.size], FpOk X pins H1 b := fun b hb => by
      have hle : s1.heap.objs.size ≤ b := by
        rcases (by simpa using hb : b = s1.heap.objs.size + 1 ∨ b = s1.heap.objs.size) with rfl | rfl
        · exact Nat.le_add_right _ _
        · exact Nat.le_refl _
      exact I1.fpOk hle (I1.hok.fresh hle)
    rcases q with ⟨hq, q⟩ | ⟨hq, q⟩
    · obtain ⟨its, rv, p', hz⟩ := I1.list hq
      refine call_enumerate_list p'.isList fun h' he hit hsz hk => wpAny_pyIter_enum he ?_
      exact ⟨s1.heap.objs.size + 1, [s1.heap.objs.size + 1, s1.heap.objs.size], _, _, H1, rfl, I1.kept (t' := s1.toks) hk, turn_enumF a (s1.heap.objs.size + 1) s1.heap.objs.size, ⟨⟨.none, he⟩, hit, Nat.succ_ne_self _⟩, fr, q⟩
    · obtain ⟨its, rv, p', hz⟩ := I1.tuple hq
      have pT : s1.heap.IsTuple a its.toArray := p'
      obtain ⟨oa, ha1, _⟩ := id pT
      have la : a < s1.heap.objs.size := Heap.lt_size ha1
      refine dl_call_enumerate (begins_tuple a its.toArray) pT fun h' he hit hk => wpAny_pyIter_enum he ?_
      exact ⟨s1.heap.objs.size + 1, [s1.heap.objs.size + 1, s1.heap.objs.size], _, _, H1, rfl, I1.kept (t' := s1.toks) hk, turn_enumT a (s1.heap.objs.size + 1) s1.heap.objs.size,
        ⟨⟨.none, he⟩, ⟨_, hit, rfl, rfl⟩, Nat.succ_ne_self _, Nat.ne_of_gt (Nat.lt_succ_of_lt la), Nat.ne_of_lt la⟩, fr, q⟩
end
section
variable {X : Cx} {w p : Bool} {e a b iter tg : Expr} {es : List Expr} {g ga gb : GE} {gs : GA} {B : Addr → Prop} {E : En} {σ : L2.St} {H H' H1 : Hp} {r : Fr} {M M' M1 : Mem} {O O' O1 : Own} {pos pos' : Pos}
def enumD : Nat → List D → List D
  | _, [] => []
  | i, d :: ds => .tup [.int (i : Nat), d] :: enumD (i + 1) ds
theorem enumD_get : ∀ {ds : List D} {k i : Nat} {d : D}, (enumD k ds)[i]? = some d → ∃ x, ds[i]? = some x ∧ d = .tup [.int ((k + i : Nat)), x]
  | [], _, _, _, h => by simp [enumD] at h
  | x :: ds, k, 0, d, h => ⟨x, rfl, by simpa [enumD] using h.symm⟩
  | x :: ds, k, i + 1, d, h => by
    obtain ⟨y, h1, h2⟩ := enumD_get (ds := ds) (k := k + 1) (i := i) (d := d) (by simpa [enumD] using h)
    exact ⟨y, by simpa using h1, by rw [h2]; congr 4; omega⟩
theorem enumD_len : ∀ {ds : List D} {k : Nat}, (enumD k ds).length = ds.length
  | [], _ => rfl
  | _ :: ds, k => congrArg (· + 1) (enumD_len (ds := ds))
/-- a new pair -/
theorem is_pair {A : Addr → Prop} {T : Addr} {o : Obj} {x y : V} {d1 d2 : D} (hd : o.dict = none) (fA : ∀ b, H b = none → ¬ A b) (n : H T = none) (i1 : Is X.K A H x d1) (i2 : Is X.K A H y d2) : Same H (upd H T (.frz o (.tup [x, y]))) ∧ Is X.K A (upd H T (.frz o (.tup [x, y]))) (.ref T) (.tup [d1, d2]) := by
  have sm := same_upd (o := .frz o (.tup [x, y])) n
  have st : Step A H A (upd H T (.frz o (.tup [x, y]))) := step_same sm fun _ z => z
  exact ⟨sm, .tup (.inl ⟨fA T n, o, hd, upd_same⟩) (.cons (i1.step st) (.cons (i2.step st) .nil))⟩
theorem walk_enum {a : Addr} {vs : List V} {ds : List D} (h : LstAt (Mut M1 O1) H1 a vs) (l : IsL X.K (Av B M1 O1) H1 vs ds) : WalkOk X B H1 M1 O1 (IteF X.K a) (enumD 0 ds) := by
  intro A U H fA sA s i
  have h' := h.step s
  have l' := l.step sA
  refine ⟨fun d hd => ?_, fun hle => ⟨vs, SqL.of h'.2, by rw [enumD_len] at hle; rw [l'.length]; exact hle⟩⟩
  obtain ⟨x, hx, rfl⟩ := enumD_get hd
  obtain ⟨v, hv, iv⟩ := l'.get hx
  refine ⟨⟨vs, v, SqL.of h'.2, hv⟩, fun z H' ⟨T, ob, y, e1, e0, e2, e3, e4⟩ => ?_⟩
  subst e1; subst e3
  have e5 := e4 vs (SqL.of h'.2)
  rw [hv] at e5
  cases e5
  rw [Nat.zero_add]
  exact is_pair e0 fA e2 (.int _) iv
theorem walk_enumT {a : Addr} {vs : List V} {ds : List D} (h : TupAt X.K (Mut M1 O1) H1 a vs) (l : IsL X.K (Av B M1 O1) H1 vs ds) : WalkOk X B H1 M1 O1 (IteT X.K a) (enumD 0 ds) := by
  intro A U H fA sA s i
  have h' := h.step s
  have l' := l.step sA
  refine ⟨fun d hd => ?_, fun hle => ⟨vs, h'.sq, by rw [enumD_len] at hle; rw [l'.length]; exact hle⟩⟩
  obtain ⟨x, hx, rfl⟩ := enumD_get hd
  obtain ⟨v, hv, iv⟩ := l'.get hx
  refine ⟨⟨vs, v, h'.sq, hv⟩, fun z H' ⟨T, ob, y, e1, e0, e2, e3, e4⟩ => ?_⟩
  subst e1; subst e3
  have e5 := e4 vs h'.sq
  rw [hv] at e5
  cases e5
  rw [Nat.zero_add]
  exact is_pair e0 fA e2 (.int _) iv
def zipD : List D → List D → List D
  | x :: xs, y :: ys => .tup [x, y] :: zipD xs ys
  | _, _ => []
/-- what a list or tuple holds -/
def itsD (f : List D → List D) (ga : GE) : GI := fun r M Q => ga r M fun d M1 => match d with
  | .lst ds => Q (f ds) M1
  | .tup ds => Q (f ds) M1
  | _ => False
theorem itsD_mono {f : List D → List D} (ha : ∀ r M Q Q', (∀ d M', Q d M' → Q' d M') → ga r M Q → ga r M Q') : ∀ r M Q Q', (∀ d M', Q d M' → Q' d M') → itsD f ga r M Q → itsD f ga r M Q' := fun r M Q Q' h q => ha _ _ _ _ (fun d M1 q1 => by
  split at q1
  · exact h _ _ q1
  · exact h _ _ q1
  · exact q1) q
theorem di_seq (ha : DE true p X iter ga) : DI p X tg iter (itsD (fun ds => ds) ga) where
  ex := ⟨_, pi_seq ha.run, fun B E σ H r M O k R' R q hR => by
    refine ha.on R q fun d M1 v H1 O1 k1 R1 l1 i1 => ?_
    have i1 : Is X.K (Av B M1 O1) H1 v d := i1
    split at k1
    · cases i1 with
      | @lst a vs _ h l => exact ⟨a, vs, rfl, .inl ⟨SqL.of h.2, hR _ M1 H1 O1 _ k1 R1 l1 (walk_lst (lst_mut h) l)⟩⟩
    · cases i1 with
      | @tup a vs _ h l => exact ⟨a, vs, rfl, .inr ⟨h.sq, hR _ M1 H1 O1 _ k1 R1 l1 (walk_tup (tup_mut h) l)⟩⟩
    · exact k1.elim⟩
  mono := itsD_mono ha.mono
theorem di_enum {pf tpos : Pos} {elts : List Expr} {kk : Nat} (hg : Gl X "enumerate") (hm : X.mg "enumerate" = none) (ha : DE true p X e ga) (hs : starEach [e] X.env = [(false, eval e X.env)] := by rfl) : DI p X (.Tuple elts kk tpos) (.Call (.Name "enumerate" pf) [e] [] pos) (itsD (enumD 0) ga) where
  ex := ⟨_, pi_enumA hg hm (da_one ha hs).run hs, fun B E σ H r M O k R' R q hR => by
    refine (da_one ha hs).on R (k := fun ds M1 => ∃ d, ds = [d] ∧ match d with
      | .lst ds => k (enumD 0 ds) M1
      | .tup ds => k (enumD 0 ds) M1
      | _ => False) (ha.mono _ _ _ _ (fun d M1 q1 => ⟨d, rfl, q1⟩) q) fun ds M1 us H1 O1 k1 R1 l1 i1 => ?_
    obtain ⟨d, rfl, k1⟩ := k1
    have i2 := isXL_strong i1
    cases i2 with
    | cons j1 t =>
      cases t
      split at k1
      · cases j1 with
        | @lst a vs _ h l => exact ⟨a, vs, rfl, .inl ⟨SqL.of h.2, hR _ M1 H1 O1 _ k1 R1 l1 (walk_enum (lst_mut h) l)⟩⟩
      · cases j1 with
        | @tup a vs _ h l => exact ⟨a, vs, rfl, .inr ⟨h.sq, hR _ M1 H1 O1 _ k1 R1 l1 (walk_enumT (tup_mut h) l)⟩⟩
      · exact k1.elim⟩
  mono := itsD_mono ha.mono
def giZip (gs : GA) : GI := fun r M Q => gs r M fun ds M1 => match ds with
  | [.lst xs, .lst ys] => Q (zipD xs ys) M1
  | [.tup xs, .tup ys] => Q (zipD xs ys) M1
  | _ => False
end
end DL
set_option Elab.async false
set_option linter.all false
set_option maxRecDepth 100000
namespace PySem
open AutoSeq1 (wpAny_loadPart')
end PySem
namespace DL
open PySem PySem.Spec PySem.W PyProof.Rows L2
section
variable {X : Cx} {w p w1 w2 : Bool} {e a b c : Expr} {es : List Expr} {g ga gb gc : GE} {gf : GF} {gs : GA} {B : Addr → Prop} {E : En} {σ : L2.St} {H H' : Hp} {r : Fr} {M M' : Mem} {O O' : Own} {pos pos' : Pos}
def goIsB (neg : Bool) : GO := fun d e M Q => match d, e with
  | .bl x, .bl y => Q (.bl (xor neg (decide (x = y)))) M
  | _, _ => False
def gIPut (i : Nat) (gi ge : GE) : GS := fun D r M => ge r M fun d M1 => match r.sl[i]? with
  | some (.o (.lst ds)) => gi r M1 fun k M2 => match k with
    | .int k => (match ixN ds.length k with
      | some j => D.nx (r.set i (.o (.lst (ds.set j d)))) M2
      | none => False)
    | _ => False
  | _ => False
theorem pyL_get : ∀ {ds : List D} {i : Nat} {z : PyData}, (D.pyL ds)[i]? = some z → ∃ d, ds[i]? = some d ∧ z = d.py
  | [], _, _, h => by simp [D.pyL] at h
  | d :: r, 0, z, h => ⟨d, rfl, by simpa [D.pyL] using h.symm⟩
  | d :: r, i + 1, z, h => by
    obtain ⟨x, h1, h2⟩ := pyL_get (ds := r) (i := i) (z := z) (by simpa [D.pyL] using h)
    exact ⟨x, by simpa using h1, h2⟩
theorem pyL_get' : ∀ {ds : List D} {i : Nat} {d : D}, ds[i]? = some d → (D.pyL ds)[i]? = some d.py
  | [], _, _, h => by simp at h
  | d :: r, 0, z, h => by simp at h; subst h; rfl
  | d :: r, i + 1, z, h => by
    have := pyL_get' (ds := r) (i := i) (d := z) (by simpa using h)
    simpa [D.pyL] using this
/-- the first one equal to e -/
def ixD : List D → D → Nat → Option Nat
  | [], _, _ => none
  | d :: r, e, k => if d.eqv e = true then some k else ixD r e (k + 1)
theorem ixD_spec {e : D} : ∀ {ds : List D} {k j : Nat}, ixD ds e k = some j → k ≤ j ∧ (∃ d, ds[j - k]? = some d ∧ d.eqv e = true) ∧ ∀ m d, m < j - k → ds[m]? = some d → d.eqv e = false
  | [], _, _, h => by simp [ixD] at h
  | d :: r, k, j, h => by
    unfold ixD at h
    by_cases c : d.eqv e = true
    · rw [if_pos c] at h
      cases h
      exact ⟨Nat.le_refl _, ⟨d, by simp, c⟩, fun m _ hm => by omega⟩
    · rw [if_neg c] at h
      obtain ⟨h1, ⟨x, h2, h3⟩, h4⟩ := ixD_spec (ds := r) h
      refine ⟨by omega, ⟨x, ?_, h3⟩, fun m y hm hy => ?_⟩
      · rw [show j - k = (j - (k + 1)) + 1 by omega]
        simpa using h2
      · cases m with
        | zero =>
          simp at hy
          subst hy
          simpa using c
        | succ m => exact h4 m y (by omega) (by simpa using hy)
/-- .. in a tuple of ints -/
def ixT (ds : List D) (e : D) (k : Nat → Prop) : Prop := match intsOf ds, e with
  | some ns, .int i => i ∈ ns ∧ k (ns.idxOf i)
  | _, _ => False
theorem ixT_mono {ds : List D} {e : D} {k k' : Nat → Prop} (h : ∀ j, k j → k' j) (q : ixT ds e k) : ixT ds e k' := by
  unfold ixT at q ⊢
  split at q
  · exact ⟨q.1, h _ q.2⟩
  · exact q.elim
def gIdx (ga gb : GE) : GE := fun r M Q => ga r M fun d M1 => match d with
  | .lst ds => gb r M1 fun e M2 => (D.ok (.lst ds) = true ∧ e.ok = true) ∧ (match ixD ds e 0 with
    | some j => Q (.int (j : Nat)) M2
    | none => False)
  | .tup ds => gb r M1 fun e M2 => ixT ds e fun j => Q (.int (j : Nat)) M2
  | _ => False
theorem gIdx_mono (ha : ∀ r M Q Q', (∀ d M', Q d M' → Q' d M') → ga r M Q → ga r M Q') (hb : ∀ r M Q Q', (∀ d M', Q d M' → Q' d M') → gb r M Q → gb r M Q') : ∀ r M Q Q', (∀ d M', Q d M' → Q' d M') → gIdx ga gb r M Q → gIdx ga gb r M Q' := fun r M Q Q' h q =>
  ha _ _ _ _ (fun d M1 q1 => by
    split at q1
    · refine hb _ _ _ _ (fun e M2 q2 => ⟨q2.1, ?_⟩) q1
      have q3 := q2.2
      split at q3
      · exact h _ _ q3
      · exact q3
    · exact hb _ _ _ _ (fun e M2 q2 => ixT_mono (fun _ q3 => h _ _ q3) q2) q1
    · exact q1) q
theorem de_index {nm : Str} {apos cpos : Pos} (hnm : nm = "index" := by rfl) (hu : X.A.units + 65 < cLine) (ha : DE true p X a ga) (hb : DE true p X b gb)
    (hbase : attributeBase a "index" X.env (eval a X.env) = eval a X.env := by rfl)
    (hfew : ((backTo cpos (starEach [b] X.env)).all (fun x => !x.1) && (backToKw cpos (keywordEach [] X.env)).all (fun x => x.1.isSome)
      && decide ([b].length + ([] : List Keyword).length + (if ([] : List Keyword).isEmpty then 0 else 1) < 30)) = true := by rfl)
    (hline : (apos.endLine == cpos.line) = true := by rfl) (hs : starEach [b] X.env = (false, eval b X.env) :: starEach [] X.env := by rfl) (hplain : (backTo cpos (starEach [] X.env)).any (·.1) = false := by rfl) :
    DE true p X (.Call (.Attribute a nm apos) [b] [] cpos) (gIdx ga gb) := by
  subst hnm
  refine ⟨peI (pe_idxA hu ha.run (da_one hb hs).run hbase hfew hline hs hplain) fun σ H Q ⟨B, E, r, M, O, R, q⟩ => ?_, gIdx_mono ha.mono hb.mono⟩
  refine ha.on R q fun d M1 v H1 O1 k1 R1 l1 i1 => ?_
  have i1 : Is X.K (Av B M1 O1) H1 v d := i1
  split at k1
  · rename_i ds _
    cases i1 with
    | @lst l vs _ h l3 =>
      refine .inl ⟨.inl ⟨rfl, _, SqL.of h.2⟩, ?_⟩
      refine (da_one hb hs).on R1 (k := fun zs M2 => ∃ e, zs = [e] ∧ (D.ok (.lst ds) = true ∧ e.ok = true) ∧ (match ixD ds e 0 with
        | some j => LE true p X B E σ r H M O Q (.int (j : Nat)) M2
        | none => False)) (hb.mono _ _ _ _ (fun e M2 q2 => ⟨e, rfl, q2⟩) k1) fun zs M2 us H2 O2 k2 R2 l2 i2 => ?_
      obtain ⟨e, rfl, ⟨ok1, ok2⟩, k2⟩ := k2
      split at k2
      · rename_i j ej
        obtain ⟨_, ⟨z, hz, hze⟩, hno⟩ := ixD_spec ej
        have jj := isXL_strong i2
        cases jj with
        | @cons u _ _ _ iu t =>
          cases t
          have iL : Is X.K (Av B M2 O2) H2 (.ref l) (.lst ds) := Is.step l2.avs (.lst h l3)
          have dp1 := iL.dp (ok_and ok1).1
          refine ⟨l, u, e.py, D.pyL ds, j, z.py, rfl, rfl, dp1, iu.dp (ok_and ok2).1, (ok_and ok1).2, (ok_and ok2).2, pyL_get' hz, hze, fun m z' hm hz' => ?_, fin_v R2 (.int _) fun v3 H3 O3 R3 l4 i3 => k2 v3 H3 O3 R3 ((l1.trans l2).trans l4.weak) i3⟩
          obtain ⟨y, hy, rfl⟩ := pyL_get hz'
          exact hno m y (by omega) hy
      · exact k2.elim
  · rename_i ds _
    cases i1 with
    | @tup l vs _ h l3 =>
      refine .inr ⟨⟨l, vs, rfl, h.tk⟩, ?_⟩
      refine (da_one hb hs).on R1 (k := fun zs M2 => ∃ e, zs = [e] ∧ ixT ds e fun j => LE true p X B E σ r H M O Q (.int (j : Nat)) M2) (hb.mono _ _ _ _ (fun e M2 q2 => ⟨e, rfl, q2⟩) k1) fun zs M2 us H2 O2 k2 R2 l2 i2 => ?_
      obtain ⟨e, rfl, k2⟩ := k2
      unfold ixT at k2
      split at k2
      · rename_i ns i en
        have jj := isXL_strong i2
        cases jj with
        | @cons u _ _ _ iu t =>
          cases t
          cases iu
          have iL : Is X.K (Av B M2 O2) H2 (.ref l) (.tup ds) := Is.step l2.avs (.tup h l3)
          cases iL with
          | @tup _ vs2 _ h2 l4 =>
            refine ⟨l, ns, i, rfl, rfl, by rw [← of_intsOf l4 en]; exact h2.sq, k2.1, fin_v R2 (.int _) fun v3 H3 O3 R3 l5 i3 => k2.2 v3 H3 O3 R3 ((l1.trans l2).trans l5.weak) i3⟩
      · exact k2.elim
  · exact k1.elim
theorem alike_ints (ns : List Int) : AlikeAll (ns.map PyData.int) := by
  refine ⟨fun x hx y hy => ?_, fun x hx => ?_⟩
  · obtain ⟨a, _, rfl⟩ := List.mem_map.mp hx
    obtain ⟨b, _, rfl⟩ := List.mem_map.mp hy
    rfl
  · obtain ⟨a, _, rfl⟩ := List.mem_map.mp hx
    exact fun z => nomatch z
theorem depth_ints : ∀ ns : List Int, PyData.depthAll (ns.map PyData.int) = 0
  | [] => rfl
  | n :: r => by simp only [List.map_cons, PyData.depthAll, PyData.depth, depth_ints r]; rfl
theorem dp_ints {K : PySem.W.Frag} : ∀ ns : List Int, DpAll K H (ns.map V.int) (ns.map PyData.int)
  | [] => .nil
  | n :: r => .cons (.int n) (dp_ints r)
theorem foldmin (ns : List Int) : ∀ n : Int, ns.foldl min n ∈ n :: ns ∧ ∀ y ∈ n :: ns, ns.foldl min n ≤ y := by
  induction ns with
  | nil => exact fun n => ⟨List.mem_cons_self .., fun y hy => by rw [List.mem_singleton.mp hy]; exact Int.le_refl _⟩
  | cons m r ih =>
    intro n
    obtain ⟨h1, h2⟩ := ih (min n m)
    rw [List.foldl_cons]
    have h3 := h2 _ (List.mem_cons_self ..)
    refine ⟨?_, fun y hy => ?_⟩
    · rcases List.mem_cons.mp h1 with e | e
      · rw [e]
        rcases Int.le_total n m with z | z
        · rw [Int.min_eq_left z]; exact List.mem_cons_self ..
        · rw [Int.min_eq_right z]; exact List.mem_cons_of_mem _ (List.mem_cons_self ..)
      · exact List.mem_cons_of_mem _ (List.mem_cons_of_mem _ e)
    · rcases List.mem_cons.mp hy with rfl | hy
      · exact Int.le_trans h3 (Int.min_le_left _ _)
      · rcases List.mem_cons.mp hy with rfl | hy
        · exact Int.le_trans h3 (Int.min_le_right _ _)
        · exact h2 y (List.mem_cons_of_mem _ hy)
theorem foldmax (ns : List Int) : ∀ n : Int, ns.foldl max n ∈ n :: ns ∧ ∀ y ∈ n :: ns, y ≤ ns.foldl max n := by
  induction ns with
  | nil => exact fun n => ⟨List.mem_cons_self .., fun y hy => by rw [List.mem_singleton.mp hy]; exact Int.le_refl _⟩
  | cons m r ih =>
    intro n
    obtain ⟨h1, h2⟩ := ih (max n m)
    rw [List.foldl_cons]
    have h3 := h2 _ (List.mem_cons_self ..)
    refine ⟨?_, fun y hy => ?_⟩
    · rcases List.mem_cons.mp h1 with e | e
      · rw [e]
        rcases Int.le_total n m with z | z
        · rw [Int.max_eq_right z]; exact List.mem_cons_of_mem _ (List.mem_cons_self ..)
        · rw [Int.max_eq_left z]; exact List.mem_cons_self ..
      · exact List.mem_cons_of_mem _ (List.mem_cons_of_mem _ e)
    · rcases List.mem_cons.mp hy with rfl | hy
      · exact Int.le_trans (Int.le_max_left _ _) h3
      · rcases List.mem_cons.mp hy with rfl | hy
        · exact Int.le_trans (Int.le_max_right _ _) h3
        · exact h2 y (List.mem_cons_of_mem _ hy)
theorem reads_int {h : Heap} {v : Value} {n : Int} {as : List Addr} (r : Reads h v (.int n) as) : ∃ t, v = .int n t := by
  cases r
  exact ⟨_, rfl⟩
theorem cr_minT (hc : X.calm = true) (hu : X.A.units + 1 < cLine) : CallR X (.builtin "min") (fun vs H Q => ∃ (a : Addr) (ns : List Int), vs = [V.ref a] ∧ SqT X.K H a (ns.map V.int) ∧ 0 < ns.length ∧ ∀ m, m ∈ ns → (∀ y, y ∈ ns → m ≤ y) → Q (.int m) H) := by
  intro pins s σ H vs us Q I r h
  obtain ⟨a, ns, rfl, hs, h0, q⟩ := h
  obtain ⟨its, rv, pt, _⟩ := I.tuple hs
  rw [Vals.ref1 r]
  cases ns with
  | nil => exact absurd h0 (by simp)
  | cons n ns =>
    obtain ⟨as, rs⟩ := Dp.readsAll I _ _ its (dp_ints (K := X.K) (H := H) (n :: ns)) rv
    refine min_tuple_data (vs := its.toArray) (I.ok.hd hc) pt (show ReadsAll s.heap its.toArray.toList (PyData.int n :: ns.map .int) as from rs) (alike_ints (n :: ns)) (by have := depth_ints (n :: ns); rw [List.map_cons] at this; rw [this]; exact hu) fun i v h' tk bs _ rd hk => ?_
    rw [minD_ints] at rd
    obtain ⟨t, rfl⟩ := reads_int rd
    obtain ⟨f1, f2⟩ := foldmin ns n
    exact ⟨.int _, H, I.kept hk, ⟨t, rfl⟩, q _ f1 f2⟩
theorem cr_maxT (hc : X.calm = true) (hu : X.A.units + 1 < cLine) : CallR X (.builtin "max") (fun vs H Q => ∃ (a : Addr) (ns : List Int), vs = [V.ref a] ∧ SqT X.K H a (ns.map V.int) ∧ 0 < ns.length ∧ ∀ m, m ∈ ns → (∀ y, y ∈ ns → y ≤ m) → Q (.int m) H) := by
  intro pins s σ H vs us Q I r h
  obtain ⟨a, ns, rfl, hs, h0, q⟩ := h
  obtain ⟨its, rv, pt, _⟩ := I.tuple hs
  rw [Vals.ref1 r]
  cases ns with
  | nil => exact absurd h0 (by simp)
  | cons n ns =>
    obtain ⟨as, rs⟩ := Dp.readsAll I _ _ its (dp_ints (K := X.K) (H := H) (n :: ns)) rv
    refine max_tuple_data (vs := its.toArray) (I.ok.hd hc) pt (show ReadsAll s.heap its.toArray.toList (PyData.int n :: ns.map .int) as from rs) (alike_ints (n :: ns)) (by have := depth_ints (n :: ns); rw [List.map_cons] at this; rw [this]; exact hu) fun i v h' tk bs _ rd hk => ?_
    rw [maxD_ints] at rd
    obtain ⟨t, rfl⟩ := reads_int rd
    obtain ⟨f1, f2⟩ := foldmax ns n
    exact ⟨.int _, H, I.kept hk, ⟨t, rfl⟩, q _ f1 f2⟩
def gcMinA : GC := fun ds M Q => match ds with
  | [.lst xs] => ∃ ns, intsOf xs = some ns ∧ 0 < ns.length ∧ ∀ m, m ∈ ns → (∀ y ∈ ns, m ≤ y) → Q (.int m) M
  | [.tup xs] => ∃ ns, intsOf xs = some ns ∧ 0 < ns.length ∧ ∀ m, m ∈ ns → (∀ y ∈ ns, m ≤ y) → Q (.int m) M
  | [.int i, .int j] => Q (.int (if j < i then j else i)) M
  | _ => False
def gcMaxA : GC := fun ds M Q => match ds with
  | [.lst xs] => ∃ ns, intsOf xs = some ns ∧ 0 < ns.length ∧ ∀ m, m ∈ ns → (∀ y ∈ ns, y ≤ m) → Q (.int m) M
  | [.tup xs] => ∃ ns, intsOf xs = some ns ∧ 0 < ns.length ∧ ∀ m, m ∈ ns → (∀ y ∈ ns, y ≤ m) → Q (.int m) M
  | [.int i, .int j] => Q (.int (if j > i then j else i)) M
  | _ => False
theorem ca_minA (hc : X.calm = true) (hu : X.A.units + 1 < cLine) : CaD X (.builtin "min") gcMinA where
  ex := ⟨_, (cr_min hc).or ((cr_minT hc hu).or (call_min2 hc)), fun B E σ H r M O xs ds Q R ii q => by
    unfold gcMinA at q
    split at q
    · obtain ⟨v, rfl, a, vs, rfl, h1, l1⟩ := isXL1 ii
      obtain ⟨bs, e, h0, q⟩ := q
      rw [of_intsOf l1 e] at h1
      exact .inl ⟨a, bs, rfl, SqL.of h1, h0, fun m hm hy => fin_v R (.int _) (q m hm hy)⟩
    · obtain ⟨v, rfl, a, vs, rfl, h1, l1⟩ := isXL1 ii
      obtain ⟨bs, e, h0, q⟩ := q
      rw [of_intsOf l1 e] at h1
      exact .inr (.inl ⟨a, bs, rfl, h1, h0, fun m hm hy => fin_v R (.int _) (q m hm hy)⟩)
    · obtain ⟨v, u, rfl, j1, j2⟩ := isXL2 ii
      rw [is1_int j1, is1_int j2]
      exact .inr (.inr ⟨_, _, rfl, fin_v R (.int _) q⟩)
    · exact q.elim⟩
  mono := fun d M Q Q' h q => by
    unfold gcMinA at q ⊢
    split at q
    · obtain ⟨bs, e, h0, q⟩ := q
      exact ⟨bs, e, h0, fun m hm hy => h _ _ (q m hm hy)⟩
    · obtain ⟨bs, e, h0, q⟩ := q
      exact ⟨bs, e, h0, fun m hm hy => h _ _ (q m hm hy)⟩
    · exact h _ _ q
    · exact q.elim
theorem ca_maxA (hc : X.calm = true) (hu : X.A.units + 1 < cLine) : CaD X (.builtin "max") gcMaxA where
  ex := ⟨_, (cr_max hc).or ((cr_maxT hc hu).or (call_max2 hc)), fun B E σ H r M O xs ds Q R ii q => by
    unfold gcMaxA at q
    split at q
    · obtain ⟨v, rfl, a, vs, rfl, h1, l1⟩ := isXL1 ii
      obtain ⟨bs, e, h0, q⟩ := q
      rw [of_intsOf l1 e] at h1
      exact .inl ⟨a, bs, rfl, SqL.of h1, h0, fun m hm hy => fin_v R (.int _) (q m hm hy)⟩
    · obtain ⟨v, rfl, a, vs, rfl, h1, l1⟩ := isXL1 ii
      obtain ⟨bs, e, h0, q⟩ := q
      rw [of_intsOf l1 e] at h1
      exact .inr (.inl ⟨a, bs, rfl, h1, h0, fun m hm hy => fin_v R (.int _) (q m hm hy)⟩)
    · obtain ⟨v, u, rfl, j1, j2⟩ := isXL2 ii
      rw [is1_int j1, is1_int j2]
      exact .inr (.inr ⟨_, _, rfl, fin_v R (.int _) q⟩)
    · exact q.elim⟩
  mono := fun d M Q Q' h q => by
    unfold gcMaxA at q ⊢
    split at q
    · obtain ⟨bs, e, h0, q⟩ := q
      exact ⟨bs, e, h0, fun m hm hy => h _ _ (q m hm hy)⟩
    · obtain ⟨bs, e, h0, q⟩ := q
      exact ⟨bs, e, h0, fun m hm hy => h _ _ (q m hm hy)⟩
    · exact h _ _ q
    · exact q.elim
def repD (k : Int) (xs : List D) : List D := (List.replicate k.toNat xs).flatten
def goMulT : GO := fun d e M Q => match d, e with
  | .tup xs, .int k => (xs ≠ [] ∧ -1000000 ≤ k ∧ k ≤ 1000 ∧ xs.length ≤ 1000) ∧ Q (.tup (repD k xs)) M
  | _, _ => False
theorem IsL.rep {K : PySem.W.Frag} {A : Addr → Prop} {vs : List V} {ds : List D} (h : IsL K A H vs ds) : ∀ k : Nat, IsL K A H (List.replicate k vs).flatten (List.replicate k ds).flatten
  | 0 => .nil
  | k + 1 => by
    rw [List.replicate_succ, List.replicate_succ, List.flatten_cons, List.flatten_cons]
    exact h.append (IsL.rep h k)
end
end DL
set_option Elab.async false
set_option linter.all false
set_option maxRecDepth 100000
namespace DL
open PySem PySem.Spec PyProof.Rows L2
section
variable {X : Cx} {w p : Bool} {a : Expr} {ga : GE} {pos : Pos}
/-- xs[::-1] -/
def goRevA : GU := fun d M Q => match d with
  | .lst xs => Q (.lst xs.reverse) M
  | .tup xs => Q (.tup xs.reverse) M
  | _ => False
end
end DL
set_option Elab.async false
set_option linter.all false
set_option maxRecDepth 100000
namespace DL
open PySem PySem.Spec PySem.W PyProof.Rows L2
abbrev goSub : GO := goI (fun _ _ => True) fun i j => .int (i - j)
abbrev goMod : GO := goI (fun _ j => 0 < j) fun i j => .int (i % j)
abbrev goFdiv : GO := goI CDivW fun i j => .int (i / j)
abbrev goPow : GO := goI CPow fun i j => .int (i ^ j.toNat)
abbrev goMulI : GO := goI CMul fun i j => .int (i * j)
abbrev goLe : GO := goI (fun _ _ => True) fun i j => .bl (decide (i ≤ j))
abbrev goGt : GO := goI (fun _ _ => True) fun i j => .bl (decide (j < i))
abbrev goGe : GO := goI (fun _ _ => True) fun i j => .bl (decide (j ≤ i))
abbrev guNeg : GU := guI fun i => .int (-i)
abbrev gcAll : GC := gcBls fun bs => bs.all _root_.id
abbrev gcAny : GC := gcBls fun bs => bs.any _root_.id
abbrev gcAbs : GC := gcI1 fun i => .int (if i < 0 then -i else i)
theorem hu_ {A : Around} {k : Nat} (hr : Room k A) {n : Nat} (h : n ≤ 200 := by decide) : A.units + n < cLine := by have := hr.un; omega
section
variable {X : Cx} {p : Bool} {tg iter elt : Expr} {ifs : List Expr} {scope : Scope} {own : List (Str × Nat)} {ws : List Nat} {gi : GI} {gt : GG} {gtt : GT} {ge : GE} {pos : Pos}
theorem df_comp (hc : X.calm = true) (hN : X.N.Nodup) (hi : DI p X tg iter gi) (ok : BlkOk X.N X.env.scope scope own)
    (hg : ∀ (s : Shared) (H : Hp) (C : Addr) (cl : List (Str × Addr)) (fp : List Addr), DT' (X.blk s H scope (compEnvC scope cl C X.env) fp) tg ws gt)
    (ht : ∀ (s : Shared) (H : Hp) (C : Addr) (cl : List (Str × Addr)) (fp : List Addr), DTts p (X.blk s H scope (compEnvC scope cl C X.env) fp) ifs gtt)
    (he : ∀ (s : Shared) (H : Hp) (C : Addr) (cl : List (Str × Addr)) (fp : List Addr), DE true p (X.blk s H scope (compEnvC scope cl C X.env) fp) elt ge)
    (hws : ∀ j ∈ ws, j ∈ own.map (·.2) := by decide) (hs : ∀ x, foldedSetIterable iter X.env x = pure x := by intro _; rfl) : DF p X (.ListComp elt [⟨tg, iter, ifs, 0⟩] scope pos) (gLc gi gt gtt ge (own.map (·.2))) :=
  df_lc hc hN hi ok hg ht he (hg X.s_0 X.H_0 0 [] []).p.mono (ht X.s_0 X.H_0 0 [] []).mono (he X.s_0 X.H_0 0 [] []).mono (hg X.s_0 X.H_0 0 [] []).s hws hs
/-- .. and data -/
theorem ds_setC (i : Nat) {y : Str} {py spos : Pos} (hc : X.calm = true) (hN : X.N.Nodup) (hi : DI p X tg iter gi) (ok : BlkOk X.N X.env.scope scope own)
    (hg : ∀ (s : Shared) (H : Hp) (C : Addr) (cl : List (Str × Addr)) (fp : List Addr), DT' (X.blk s H scope (compEnvC scope cl C X.env) fp) tg ws gt)
    (ht : ∀ (s : Shared) (H : Hp) (C : Addr) (cl : List (Str × Addr)) (fp : List Addr), DTts p (X.blk s H scope (compEnvC scope cl C X.env) fp) ifs gtt)
    (he : ∀ (s : Shared) (H : Hp) (C : Addr) (cl : List (Str × Addr)) (fp : List Addr), DE true p (X.blk s H scope (compEnvC scope cl C X.env) fp) elt ge)
    (hws : ∀ j ∈ ws, j ∈ own.map (·.2) := by decide) (hs : ∀ x, foldedSetIterable iter X.env x = pure x := by intro _; rfl)
    (hi' : X.N[i]? = some y := by rfl) (hy : X.env.scope.names.lookup y = some .local := by rfl) (hsw : swapsWith (.ListComp elt [⟨tg, iter, ifs, 0⟩] scope pos) (some (.Name y py)) spos.line X.env = pure true := by rfl) :
    DS X (.Assign [.Name y py] (.ListComp elt [⟨tg, iter, ifs, 0⟩] scope pos) spos) (gSet i (gFd (gLc gi gt gtt ge (own.map (·.2))))) := by
  have hgm := (hg X.s_0 X.H_0 0 [] []).p.mono
  have htm := (ht X.s_0 X.H_0 0 [] []).mono
  have hem := (he X.s_0 X.H_0 0 [] []).mono
  have hm := gLc_mono (vs := own.map (·.2)) hi hgm htm hem
  refine ⟨psI (ds_lc i hc hN hi ok hg ht he hgm htm hem (hg X.s_0 X.H_0 0 [] []).s hws hs hi' hy hsw) fun D σ H ⟨B, E, r, M, O, R, q⟩ => ⟨B, E, r, M, O, R, hm r M (fun m M1 => match m with | .lst ds => (LS X B E D).nx (r.set i (.v (.lst ds))) M1 | .dic _ => False) _ (fun m M1 k1 a H1 O1 N1 l1 i1 => by
    cases m with
    | lst ds => exact k1 _ H1 _ (N1.any.setv i (N1.is i1))
    | dic ds => exact k1.elim) q⟩, fun D D' r M l q => hm r M (fun m M1 => match m with | .lst ds => D.nx (r.set i (.v (.lst ds))) M1 | .dic _ => False) (fun m M1 => match m with | .lst ds => D'.nx (r.set i (.v (.lst ds))) M1 | .dic _ => False) (fun m M1 q1 => by
    cases m with
    | lst ds => exact l.nx _ _ q1
    | dic ds => exact q1) q⟩
end
/-- drawn: the state at ds[0], memory as it was -/
def DrawF (pre : List D → Prop) (post : List D → D → Prop) : FS := fun ds M Q _ => (∃ a r, ds = .ref a :: r ∧ M a = some .st ∧ pre r ∧ ∀ d, post r d → Q d M)
theorem drawF_mono {pre : List D → Prop} {post : List D → D → Prop} : MonoF (DrawF pre post) := fun _ _ _ _ _ _ h _ ⟨a, r, e, m, p, q⟩ => ⟨a, r, e, m, p, fun d z => h _ _ (q d z)⟩
/-- raw: the state's dict stands open -/
def RawF (pre : List D → Prop) (post : List D → D → Prop) : FS := fun ds M Q _ => ∃ a r kds, ds = .ref a :: r ∧ M a = some (.om (.dic kds)) ∧ StOk kds ∧ pre r ∧ ∀ d kds', post r d → StOk kds' → Q d (mup M a (.om (.dic kds')))
theorem rawF_mono {pre : List D → Prop} {post : List D → D → Prop} : MonoF (RawF pre post) := fun _ _ _ _ _ _ h _ ⟨a, r, k, e, m, s, p, q⟩ => ⟨a, r, k, e, m, s, p, fun d kds z z2 => h _ _ (q d kds z z2)⟩
theorem ArgsOk.same {K : PySem.W.Frag} {A U U' : Addr → Prop} {H : Hp} (hU : U = U') {ks : List AK} {vs : List V} {ds : List D} (h : ArgsOk K A U H ks vs ds) : ArgsOk K A U' H ks vs ds := by rw [← hU]; exact h
theorem Def.draw {P : Program} {w : World} {K : PySem.W.Frag} {mg : Str → Option Value} {base : Heap} {n : Nat} {x : Str} {ps : List Str} {ks : List AK} {pre : List D → Prop} {post : List D → D → Prop}
    (h : Def P w K mg base n x ps ks (RawF pre post)) : Def P w K mg base n x ps ks (DrawF pre post) := by
  obtain ⟨f, fd, F, hm, hk, hb⟩ := h.ex
  refine ⟨⟨f, fd, F.imp fun vs H Q E q => ?_, hm, hk, hb⟩, drawF_mono⟩
  obtain ⟨B, M, O, ds, m, fl, ha, a, r, rfl, ms, hp, q⟩ := q
  obtain ⟨kds, ok, m2⟩ := st_open m ms
  have nm : M a ≠ none := by rw [ms]; simp
  refine ⟨B, mup M a (.om (.dic kds)), O, _, m2, fl, ?_, a, r, kds, rfl, mup_same, ok, hp, fun d kds' hd ok' v H' O' m' fl' st i => ?_⟩
  · rw [av_mup nm, mut_mup nm]
    exact ha
  · rw [mup_mup] at m' st i
    have m3 := st_close m' ok'
    have e1 : mup M a .st = M := mup_self ms
    rw [e1] at m3
    rw [mut_mup nm, mut_mup nm] at st
    rw [av_mup nm] at i
    exact q d hd v H' O' m3 fl' st i
/-- the state is made -/
def BegunF : FS := fun ds M Q _ => ∃ ns : List Int, ds = [.lst (ns.map .int)] ∧ ns.length ≤ 63 ∧ ∀ a, M a = none → Q (.ref a) (mup M a .st)
theorem begunF_mono : MonoF BegunF := fun _ _ _ _ _ _ h _ ⟨ns, e, hl, q⟩ => ⟨ns, e, hl, fun a n => h _ _ (q a n)⟩
def BegunR : FS := fun ds M Q _ => ∃ ns : List Int, ds = [.lst (ns.map .int)] ∧ ns.length ≤ 63 ∧ ∀ a kds, M a = none → StOk kds → Q (.ref a) (mup M a (.om (.dic kds)))
theorem begunR_mono : MonoF BegunR := fun _ _ _ _ _ _ h _ ⟨ns, e, hl, q⟩ => ⟨ns, e, hl, fun a kds n z => h _ _ (q a kds n z)⟩
theorem Def.begun {P : Program} {w : World} {K : PySem.W.Frag} {mg : Str → Option Value} {base : Heap} {n : Nat} {x : Str} {ps : List Str} {ks : List AK} (h : Def P w K mg base n x ps ks BegunR) : Def P w K mg base n x ps ks BegunF := by
  obtain ⟨f, fd, F, hm, hk, hb⟩ := h.ex
  refine ⟨⟨f, fd, F.imp fun vs H Q E q => ?_, hm, hk, hb⟩, begunF_mono⟩
  obtain ⟨B, M, O, ds, m, fl, ha, ns, rfl, hl, q⟩ := q
  refine ⟨B, M, O, _, m, fl, ha, ns, rfl, hl, fun a kds na ok v H' O' m' fl' st i => ?_⟩
  have m3 := st_close m' ok
  refine q a na v H' O' m3 fl' ?_ ?_
  · rw [mut_mupN] at st ⊢
    exact st
  · rw [av_mupN] at i ⊢
    exact i
end DL
set_option Elab.async false
set_option linter.all false
namespace DL
open PySem PySem.Spec PySem.W PyProof.Rows L2
section
variable {gt : GG} {gtt : GT} {ge : GE} {r : DL.Fr} {M : Mem} {Q : List D → Mem → Prop}
theorem lc_map (f : D → D) : ∀ {ds acc : List D}, (∀ d ∈ ds, ∀ Q' : D → Mem → Prop, Q' (f d) M → gt d r M fun r1 M1 => ge r1 M1 Q') → acc.length + ds.length ≤ sizeLine → Q (acc ++ ds.map f) M → lcD gt gYes ge r ds acc M Q
  | [], acc, _, _, q => by
    show Q acc M
    simpa using q
  | d :: ds, acc, h, hz, q => by
    have hz' : acc.length + (ds.length + 1) ≤ sizeLine := hz
    refine h d (List.mem_cons_self ..) _ ⟨by omega, lc_map f (fun x hx => h x (List.mem_cons_of_mem _ hx)) ?_ ?_⟩
    · rw [List.length_append, List.length_cons, List.length_nil]; omega
    · rw [List.append_assoc]; exact q
end
theorem atI_in {α : Type} {xs : List α} {i : Int} (h0 : 0 ≤ i) (h1 : i < xs.length) : ∃ z, atI xs i = some z ∧ z ∈ xs ∧ xs[i.toNat]? = some z := by
  have hl : i.toNat < xs.length := by omega
  refine ⟨xs[i.toNat], ?_, List.getElem_mem hl, List.getElem?_eq_getElem hl⟩
  unfold atI ixN
  rw [if_pos h0, if_pos h1]
  exact List.getElem?_eq_getElem hl
theorem ok_of {d : D} (h1 : d.pl = true) (h2 : PyData.canLay0 d.py = true) (h3 : PyData.depth d.py ≤ 64) : d.ok = true := by
  unfold D.ok
  rw [h1, Bool.true_and]
  show (PyData.canLay0 d.py && decide (PyData.depth d.py ≤ 64)) = true
  rw [h2, decide_eq_true h3]
  rfl
/-- depth and form of what holds such things -/
structure Ok1 (k : Nat) (d : D) : Prop where
  pl : d.pl = true
  lay : PyData.canLay0 d.py = true
  dep : PyData.depth d.py ≤ k
theorem Ok1.ok {k : Nat} {d : D} (h : Ok1 k d) (hk : k ≤ 64 := by decide) : d.ok = true := ok_of h.pl h.lay (Nat.le_trans h.dep hk)
theorem Ok1.mono {j k : Nat} {d : D} (h : Ok1 j d) (hk : j ≤ k) : Ok1 k d := ⟨h.pl, h.lay, Nat.le_trans h.dep hk⟩
theorem ok1_all {k : Nat} : ∀ {ds : List D}, (∀ d ∈ ds, Ok1 k d) → D.plL ds = true ∧ PyData.canLayAll0 (D.pyL ds) = true ∧ PyData.depthAll (D.pyL ds) ≤ k
  | [], _ => ⟨rfl, rfl, Nat.zero_le _⟩
  | d :: r, h => by
    obtain ⟨h1, h2, h3⟩ := ok1_all (ds := r) fun x hx => h x (List.mem_cons_of_mem _ hx)
    obtain ⟨g1, g2, g3⟩ := h d (List.mem_cons_self ..)
    refine ⟨?_, ?_, ?_⟩
    · simp only [D.plL, g1, h1]; rfl
    · simp only [D.pyL, PyData.canLayAll0, g2, h2]; rfl
    · simp only [D.pyL, PyData.depthAll]
      exact Nat.max_le.mpr ⟨g3, h3⟩
theorem ok1_lst {k : Nat} {ds : List D} (h : ∀ d ∈ ds, Ok1 k d) : Ok1 (k + 1) (.lst ds) := by
  obtain ⟨h1, h2, h3⟩ := ok1_all h
  exact ⟨by simp only [D.pl]; exact h1, by simp only [D.py, PyData.canLay0]; exact h2, by simp only [D.py, PyData.depth]; omega⟩
theorem size_of {n : Nat} (h : n ≤ 1000000) : n ≤ sizeLine := by rw [sizeLine_eq]; omega
theorem size_lt {n : Nat} (h : n ≤ 1000000) : n < sizeLine := by rw [sizeLine_eq]; omega
def mn : List Int → Int
  | [] => 0
  | x :: r => r.foldl min x
theorem mn_mem {ns : List Int} (h : ns ≠ []) : mn ns ∈ ns := by
  cases ns with
  | nil => exact absurd rfl h
  | cons x r => exact (foldmin r x).1
theorem mn_le {ns : List Int} {y : Int} (h : y ∈ ns) : mn ns ≤ y := by
  cases ns with
  | nil => cases h
  | cons x r => exact (foldmin r x).2 y h
theorem mn_eq {ns : List Int} {m : Int} (h1 : m ∈ ns) (h2 : ∀ y ∈ ns, m ≤ y) : m = mn ns := by
  have a := mn_le h1
  have b := h2 _ (mn_mem (List.ne_nil_of_mem h1))
  omega
end DL
namespace DL
open PySem PySem.Spec PySem.W PyProof.Rows L2
end DL
set_option Elab.async false
set_option linter.all false
namespace DL
open PySem PySem.Spec PySem.W PyProof.Rows L2
/-- depth, weight: it may be compared, shown -/
structure Sh (k w : Nat) (d : D) : Prop where
  pl : d.pl = true
  lay : PyData.canLay0 d.py = true
  dep : PyData.depth d.py ≤ k
  wt : PyData.weight d.py ≤ w
  sh : PyData.showable d.py = true
  lv : PyData.leavesShort 13 d.py = true
theorem Sh.ok {k w : Nat} {d : D} (h : Sh k w d) (hk : k ≤ 64 := by decide) : d.ok = true := ok_of h.pl h.lay (Nat.le_trans h.dep hk)
theorem Sh.mono {j k v w : Nat} {d : D} (h : Sh j v d) (hk : j ≤ k) (hw : v ≤ w) : Sh k w d := ⟨h.pl, h.lay, Nat.le_trans h.dep hk, Nat.le_trans h.wt hw, h.sh, h.lv⟩
theorem Sh.len {k w : Nat} {d : D} (h : Sh k w d) (hw : w ≤ 1000000) : d.py.shown.length ≤ sizeLine :=
  PyData.shown_fits (B := 13) (by decide) (by decide) h.lv (Nat.le_trans h.wt (by omega))
theorem eqv_str (a b : PySem.Str) : D.eqv (.str a) (.str b) = decide (a = b) := by
  simp only [D.eqv, D.py, PyData.eqv]
  by_cases h : a = b
  · simp [h]
  · simp [h]
/-- < of numbers, of tuples of numbers -/
def goLtA : GO := fun d e M Q => match d, e with
  | .int i, .int j => Q (.bl (decide (i < j))) M
  | .tup xs, .tup ys => ∃ ns ms, intsOf xs = some ns ∧ intsOf ys = some ms ∧ Q (.bl (HT.lexLt ns ms)) M
  | _, _ => False
theorem od_ltA {X : Cx} (hu : X.A.units < cLine) : OpD X (compareOp .Lt) goLtA where
  ex := ⟨_, op_lt.or (op_ltT hu), fun B E σ H r M O x y d e Q R i1 i2 q => by
    unfold goLtA at q
    split at q
    · rw [is1_int i1, is1_int i2]
      exact .inl ⟨_, _, rfl, rfl, fin_v R (.bl _) q⟩
    · obtain ⟨a, vs, rfl, h1, l1⟩ := i1
      obtain ⟨b, us, rfl, h2, l2⟩ := i2
      obtain ⟨ns, ms, e1, e2, q⟩ := q
      rw [of_intsOf l1 e1] at h1
      rw [of_intsOf l2 e2] at h2
      exact .inr ⟨a, b, ns, ms, rfl, rfl, h1, h2, fin_v R (.bl _) q⟩
    · exact q.elim⟩
  mono := fun d e M Q Q' h q => by
    unfold goLtA at q ⊢
    split at q
    · exact h _ _ q
    · obtain ⟨ns, ms, e1, e2, q⟩ := q
      exact ⟨ns, ms, e1, e2, h _ _ q⟩
    · exact q
end DL
set_option Elab.async false
set_option linter.all false
namespace DL
open PySem PySem.Spec PySem.W PyProof.Rows L2
section
variable {M : Mem} {Q : D → Mem → Prop} {r : DL.Fr} {i j : Int} {x y : PySem.Str} {xs ys : List D} {b c : Bool} {kvs : List (Key × D)}
theorem goAdd_int : goAdd (.int i) (.int j) M Q = Q (.int (i + j)) M := rfl
theorem goAdd_str : goAdd (.str x) (.str y) M Q = (x.length + y.length ≤ sizeLine ∧ Q (.str (x ++ y)) M) := rfl
theorem goAdd_tup : goAdd (.tup xs) (.tup ys) M Q = (xs.length + ys.length ≤ sizeLine ∧ Q (.tup (xs ++ ys)) M) := rfl
theorem goAdd_lst : goAdd (.lst xs) (.lst ys) M Q = (xs.length + ys.length ≤ sizeLine ∧ Q (.lst (xs ++ ys)) M) := rfl
theorem goAddW_int : goAddW (.int i) (.int j) M Q = Q (.int (i + j)) M := rfl
theorem goAddW_lst : goAddW (.lst xs) (.lst ys) M Q = (xs.length + ys.length ≤ sizeLine ∧ Q (.lst (xs ++ ys)) M) := rfl
theorem goPlus_int : goPlus (.int i) (.int j) M Q = Q (.int (i + j)) M := rfl
theorem goI_int {C : Int → Int → Prop} {f : Int → Int → D} : goI C f (.int i) (.int j) M Q = (C i j ∧ Q (f i j) M) := rfl
theorem guI_int {f : Int → D} : guI f (.int i) M Q = Q (f i) M := rfl
theorem gcI1_int {f : Int → D} : gcI1 f [.int i] M Q = Q (f i) M := rfl
theorem goIx_lst : goIx (.lst xs) (.int i) M Q = match atI xs i with | some z => Q z M | none => False := rfl
theorem gcLen_lst : gcLen [.lst xs] M Q = Q (.int xs.length) M := rfl
theorem gcTupleS_lst : gcTupleS [.lst xs] M Q = Q (.tup xs) M := rfl
theorem gcList_lst : gcList [.lst xs] M Q = Q (.lst xs) M := rfl
theorem goRevA_lst : goRevA (.lst xs) M Q = Q (.lst xs.reverse) M := rfl
theorem goIx_tup : goIx (.tup xs) (.int i) M Q = match atI xs i with | some z => Q z M | none => False := rfl
theorem gcLen_tup : gcLen [.tup xs] M Q = Q (.int xs.length) M := rfl
theorem gcTupleS_tup : gcTupleS [.tup xs] M Q = Q (.tup xs) M := rfl
theorem gcList_tup : gcList [.tup xs] M Q = Q (.lst xs) M := rfl
theorem goRevA_tup : goRevA (.tup xs) M Q = Q (.tup xs.reverse) M := rfl
theorem gcTuple_lst : gcTuple [.lst xs] M Q = Q (.tup xs) M := rfl
theorem goIx_str : goIx (.str x) (.int i) M Q = (x.length ≤ sizeLine ∧ match atI x.cps.toList i with | some c => Q (.str ⟨#[c]⟩) M | none => False) := rfl
theorem gcLen_str : gcLen [.str x] M Q = (x.length ≤ sizeLine ∧ Q (.int x.length) M) := rfl
theorem gcInt_int : gcInt [.int i] M Q = Q (.int i) M := rfl
theorem gcInt_bl : gcInt [.bl b] M Q = Q (.int (if b then 1 else 0)) M := rfl
theorem goMulT_tup : goMulT (.tup xs) (.int i) M Q = ((xs ≠ [] ∧ -1000000 ≤ i ∧ i ≤ 1000 ∧ xs.length ≤ 1000) ∧ Q (.tup (repD i xs)) M) := rfl
theorem goIsB_bl {n : Bool} : goIsB n (.bl b) (.bl c) M Q = Q (.bl (xor n (decide (b = c)))) M := rfl
theorem goIsN_non {n : Bool} {d : D} : goIsN n d .non M Q = Q (.bl (xor n d.isN)) M := rfl
theorem isN_int {z} : D.isN (.int z) = false := rfl
theorem isN_bl {z} : D.isN (.bl z) = false := rfl
theorem isN_str {z} : D.isN (.str z) = false := rfl
theorem isN_tup {z} : D.isN (.tup z) = false := rfl
theorem isN_lst {z} : D.isN (.lst z) = false := rfl
theorem isN_dic {z} : D.isN (.dic z) = false := rfl
theorem isN_ref {z} : D.isN (.ref z) = false := rfl
theorem isN_ty {z} : D.isN (.ty z) = false := rfl
theorem isN_non : D.isN .non = true := rfl
def truK (d : D) (M : Mem) (Q : Bool → Mem → Prop) : Prop := match d with
  | .non => Q false M
  | .bl b => Q b M
  | .int i => Q (i != 0) M
  | .str x => x.length ≤ sizeLine ∧ Q ((x.length : Int) != 0) M
  | .lst xs => Q (!xs.isEmpty) M
  | .tup xs => Q (!xs.isEmpty) M
  | .dic xs => Q (!xs.isEmpty) M
  | _ => False
theorem gTru_k {ga : GE} {Q : Bool → Mem → Prop} : gTru ga r M Q = ga r M fun d M1 => truK d M1 Q := by
  unfold gTru
  congr 1
theorem truK_non {Q : Bool → Mem → Prop} : truK .non M Q = Q false M := rfl
theorem truK_bl {Q : Bool → Mem → Prop} : truK (.bl b) M Q = Q b M := rfl
theorem truK_int {Q : Bool → Mem → Prop} : truK (.int i) M Q = Q (i != 0) M := rfl
theorem truK_lst {Q : Bool → Mem → Prop} : truK (.lst xs) M Q = Q (!xs.isEmpty) M := rfl
theorem truK_tup {Q : Bool → Mem → Prop} : truK (.tup xs) M Q = Q (!xs.isEmpty) M := rfl
theorem truK_str {Q : Bool → Mem → Prop} : truK (.str x) M Q = (x.length ≤ sizeLine ∧ Q ((x.length : Int) != 0) M) := rfl
def lstK (d : D) (M : Mem) (Q : OM → Mem → Prop) : Prop := match d with
  | .lst xs => Q (.lst xs) M
  | .tup xs => Q (.lst xs) M
  | .dic kds => Q (.lst (kds.map fun kv => kD kv.1)) M
  | _ => False
theorem gFlist_k {ga : GE} {Q : OM → Mem → Prop} : gFlist ga r M Q = ga r M fun d M1 => lstK d M1 Q := by
  unfold gFlist
  congr 1
theorem lstK_lst {Q : OM → Mem → Prop} : lstK (.lst xs) M Q = Q (.lst xs) M := rfl
theorem lstK_dic {kds : List (Key × D)} {Q : OM → Mem → Prop} : lstK (.dic kds) M Q = Q (.lst (kds.map fun kv => kD kv.1)) M := rfl
theorem gcLen_dic {kds : List (Key × D)} : gcLen [.dic kds] M Q = Q (.int kds.length) M := rfl
theorem goIx_dic {kds : List (Key × D)} {e : D} : goIx (.dic kds) e M Q = dgetK kds e M Q := rfl
theorem truK_dic {kds : List (Key × D)} {Q : Bool → Mem → Prop} : truK (.dic kds) M Q = Q (!kds.isEmpty) M := rfl
theorem lstK_tup {Q : OM → Mem → Prop} : lstK (.tup xs) M Q = Q (.lst xs) M := rfl
def slK (w : Bool) (d : D) (lo hi : Option Int) (M : Mem) (Q : D → Mem → Prop) : Prop := match d with
  | .lst xs => Q (.lst (cutD xs lo hi)) M
  | .tup xs => w = true ∧ Q (.tup (cutD xs lo hi)) M
  | .str x => x.length ≤ sizeLine ∧ Q (.str (cutS x lo hi)) M
  | _ => False
theorem gsSl_k {w : Bool} {ga : GE} {gl gh : GO'} : gsSl w ga gl gh r M Q = ga r M fun d M1 => gl r M1 fun lo M2 => gh r M2 fun hi M3 => slK w d lo hi M3 Q := by
  unfold gsSl
  congr 1
theorem slK_lst {w : Bool} {lo hi : Option Int} : slK w (.lst xs) lo hi M Q = Q (.lst (cutD xs lo hi)) M := rfl
theorem slK_tup {lo hi : Option Int} : slK true (.tup xs) lo hi M Q = Q (.tup (cutD xs lo hi)) M := propext ⟨fun h => h.2, fun h => ⟨rfl, h⟩⟩
theorem slK_str {w : Bool} {lo hi : Option Int} : slK w (.str x) lo hi M Q = (x.length ≤ sizeLine ∧ Q (.str (cutS x lo hi)) M) := rfl
def itsK (f : List D → List D) (d : D) (M : Mem) (Q : List D → Mem → Prop) : Prop := match d with
  | .lst ds => Q (f ds) M
  | .tup ds => Q (f ds) M
  | _ => False
theorem itsD_k {f : List D → List D} {ga : GE} {Q : List D → Mem → Prop} : itsD f ga r M Q = ga r M fun d M1 => itsK f d M1 Q := by
  unfold itsD
  congr 1
theorem itsK_lst {f : List D → List D} {Q : List D → Mem → Prop} : itsK f (.lst xs) M Q = Q (f xs) M := rfl
theorem itsK_tup {f : List D → List D} {Q : List D → Mem → Prop} : itsK f (.tup xs) M Q = Q (f xs) M := rfl
def zipK (ds : List D) (M : Mem) (Q : List D → Mem → Prop) : Prop := match ds with
  | [.lst xs, .lst ys] => Q (zipD xs ys) M
  | [.tup xs, .tup ys] => Q (zipD xs ys) M
  | _ => False
theorem giZip_k {gs : GA} {Q : List D → Mem → Prop} : giZip gs r M Q = gs r M fun ds M1 => zipK ds M1 Q := by
  unfold giZip
  congr 1
theorem zipK_lst {Q : List D → Mem → Prop} : zipK [.lst xs, .lst ys] M Q = Q (zipD xs ys) M := rfl
theorem zipK_tup {Q : List D → Mem → Prop} : zipK [.tup xs, .tup ys] M Q = Q (zipD xs ys) M := rfl
def ran1K (ds : List D) (M : Mem) (Q : List D → Mem → Prop) : Prop := match ds with
  | [.int j] => (-(2 ^ 62) ≤ j ∧ j < 2 ^ 62) ∧ Q (rngD 0 j.toNat) M
  | _ => False
theorem giR1_k {gs : GA} {Q : List D → Mem → Prop} : giR1 gs r M Q = gs r M fun ds M1 => ran1K ds M1 Q := by
  unfold giR1
  congr 1
theorem ran1K_nat {n : Nat} {Q : List D → Mem → Prop} : ran1K [.int (n : Int)] M Q = ((n : Int) < 2 ^ 62 ∧ Q (rngD 0 n) M) := propext ⟨fun h => ⟨h.1.2, by have := h.2; rwa [Int.toNat_natCast] at this⟩, fun h => ⟨⟨by omega, h.1⟩, by rw [Int.toNat_natCast]; exact h.2⟩⟩
theorem ran1K_int {Q : List D → Mem → Prop} : ran1K [.int i] M Q = ((-(2 ^ 62) ≤ i ∧ i < 2 ^ 62) ∧ Q (rngD 0 i.toNat) M) := rfl
def ran2K (ds : List D) (M : Mem) (Q : List D → Mem → Prop) : Prop := match ds with
  | [.int i, .int j] => (-(2 ^ 62) ≤ i ∧ i < 2 ^ 62 ∧ -(2 ^ 62) ≤ j ∧ j < 2 ^ 62) ∧ Q (rngD i (j - i).toNat) M
  | _ => False
theorem giR2_k {gs : GA} {Q : List D → Mem → Prop} : giR2 gs r M Q = gs r M fun ds M1 => ran2K ds M1 Q := by
  unfold giR2
  congr 1
theorem ran2K_int {Q : List D → Mem → Prop} : ran2K [.int i, .int j] M Q = ((-(2 ^ 62) ≤ i ∧ i < 2 ^ 62 ∧ -(2 ^ 62) ≤ j ∧ j < 2 ^ 62) ∧ Q (rngD i (j - i).toNat) M) := rfl
theorem goLtA_int : goLtA (.int i) (.int j) M Q = Q (.bl (decide (i < j))) M := rfl
theorem goLtA_tup {ns ms : List Int} : goLtA (.tup (ns.map .int)) (.tup (ms.map .int)) M Q = Q (.bl (HT.lexLt ns ms)) M := propext ⟨fun ⟨a, b, h1, h2, q⟩ => by
    rw [intsOf_map] at h1 h2
    cases h1; cases h2
    exact q, fun q => ⟨ns, ms, intsOf_map _, intsOf_map _, q⟩⟩
theorem ok_non : D.ok .non = true := rfl
theorem eqv_bl (a b : Bool) : D.eqv (.bl a) (.bl b) = decide (a = b) := by cases a <;> cases b <;> simp [D.eqv, D.py, PyData.eqv]
/-- numbers, truths, texts; else what is ok -/
def goEqA : GO := fun d e M Q => match d, e with
  | .int i, .int j => Q (.bl (decide (i = j))) M
  | .bl i, .bl j => Q (.bl (decide (i = j))) M
  | .str i, .str j => Q (.bl (decide (i = j))) M
  | d, e => (d.ok = true ∧ e.ok = true) ∧ Q (.bl (d.eqv e)) M
def goNeA : GO := fun d e M Q => match d, e with
  | .int i, .int j => Q (.bl (!decide (i = j))) M
  | .bl i, .bl j => Q (.bl (!decide (i = j))) M
  | .str i, .str j => Q (.bl (!decide (i = j))) M
  | d, e => (d.ok = true ∧ e.ok = true) ∧ Q (.bl (!d.eqv e)) M
theorem decV_int {i j : Int} : decide (V.int i = V.int j) = decide (i = j) := by
  by_cases h : i = j
  · subst h; simp
  · rw [decide_eq_false h, decide_eq_false fun z => h (by cases z; rfl)]
theorem decV_bl {i j : Bool} : decide (V.bl i = V.bl j) = decide (i = j) := by
  by_cases h : i = j
  · subst h; simp
  · rw [decide_eq_false h, decide_eq_false fun z => h (by cases z; rfl)]
theorem decV_str {i j : PySem.Str} : decide (V.str i = V.str j) = decide (i = j) := by
  by_cases h : i = j
  · subst h; simp
  · rw [decide_eq_false h, decide_eq_false fun z => h (by cases z; rfl)]
theorem od_eqA {X : Cx} (hu : X.A.units + 64 < cLine) : OpD X (compareOp .Eq) goEqA where
  ex := ⟨_, op_eq.or (op_eqD hu), fun B E σ H r M O x y d e Q R i1 i2 q => by
    unfold goEqA at q
    split at q
    · rw [is1_int i1, is1_int i2]
      exact .inl ⟨rfl, by rw [decV_int]; exact fin_v R (.bl _) q⟩
    · rw [is1_bl i1, is1_bl i2]
      exact .inl ⟨rfl, by rw [decV_bl]; exact fin_v R (.bl _) q⟩
    · rw [is1_str i1, is1_str i2]
      exact .inl ⟨rfl, by rw [decV_str]; exact fin_v R (.bl _) q⟩
    · exact .inr ⟨d.py, e.py, i1.dp (ok_and q.1.1).1, i2.dp (ok_and q.1.2).1, (ok_and q.1.1).2, (ok_and q.1.2).2, fin_v R (.bl _) q.2⟩⟩
  mono := fun d e M Q Q' h q => by
    unfold goEqA at q ⊢
    split at q
    · exact h _ _ q
    · exact h _ _ q
    · exact h _ _ q
    · exact ⟨q.1, h _ _ q.2⟩
theorem od_neA {X : Cx} (hu : X.A.units + 64 < cLine) : OpD X (compareOp .NotEq) goNeA where
  ex := ⟨_, op_ne.or (op_neD hu), fun B E σ H r M O x y d e Q R i1 i2 q => by
    unfold goNeA at q
    split at q
    · rw [is1_int i1, is1_int i2]
      exact .inl ⟨rfl, by rw [decV_int]; exact fin_v R (.bl _) q⟩
    · rw [is1_bl i1, is1_bl i2]
      exact .inl ⟨rfl, by rw [decV_bl]; exact fin_v R (.bl _) q⟩
    · rw [is1_str i1, is1_str i2]
      exact .inl ⟨rfl, by rw [decV_str]; exact fin_v R (.bl _) q⟩
    · exact .inr ⟨d.py, e.py, i1.dp (ok_and q.1.1).1, i2.dp (ok_and q.1.2).1, (ok_and q.1.1).2, (ok_and q.1.2).2, fin_v R (.bl _) q.2⟩⟩
  mono := fun d e M Q Q' h q => by
    unfold goNeA at q ⊢
    split at q
    · exact h _ _ q
    · exact h _ _ q
    · exact h _ _ q
    · exact ⟨q.1, h _ _ q.2⟩
theorem goEq_int : goEqA (.int i) (.int j) M Q = Q (.bl (decide (i = j))) M := rfl
theorem goNe_int : goNeA (.int i) (.int j) M Q = Q (.bl (!decide (i = j))) M := rfl
theorem goEq_bl : goEqA (.bl b) (.bl c) M Q = Q (.bl (decide (b = c))) M := rfl
theorem goNe_bl : goNeA (.bl b) (.bl c) M Q = Q (.bl (!decide (b = c))) M := rfl
theorem goEq_str : goEqA (.str x) (.str y) M Q = Q (.bl (decide (x = y))) M := rfl
theorem goNe_str : goNeA (.str x) (.str y) M Q = Q (.bl (!decide (x = y))) M := rfl
theorem goEq_tup {e : D} : goEqA (.tup xs) e M Q = ((D.ok (.tup xs) = true ∧ e.ok = true) ∧ Q (.bl (D.eqv (.tup xs) e)) M) := rfl
theorem goNe_tup {e : D} : goNeA (.tup xs) e M Q = ((D.ok (.tup xs) = true ∧ e.ok = true) ∧ Q (.bl (!D.eqv (.tup xs) e)) M) := rfl
theorem goEq_lst {e : D} : goEqA (.lst xs) e M Q = ((D.ok (.lst xs) = true ∧ e.ok = true) ∧ Q (.bl (D.eqv (.lst xs) e)) M) := rfl
theorem goNe_lst {e : D} : goNeA (.lst xs) e M Q = ((D.ok (.lst xs) = true ∧ e.ok = true) ∧ Q (.bl (!D.eqv (.lst xs) e)) M) := rfl
theorem goEq_non {e : D} : goEqA .non e M Q = ((D.ok .non = true ∧ e.ok = true) ∧ Q (.bl (D.eqv .non e)) M) := rfl
theorem goNe_non {e : D} : goNeA .non e M Q = ((D.ok .non = true ∧ e.ok = true) ∧ Q (.bl (!D.eqv .non e)) M) := rfl
def mx : List Int → Int
  | [] => 0
  | x :: r => r.foldl max x
theorem mx_mem {ns : List Int} (h : ns ≠ []) : mx ns ∈ ns := by
  cases ns with
  | nil => exact absurd rfl h
  | cons x r => exact (foldmax r x).1
theorem mx_ge {ns : List Int} {y : Int} (h : y ∈ ns) : y ≤ mx ns := by
  cases ns with
  | nil => cases h
  | cons x r => exact (foldmax r x).2 y h
theorem mx_eq {ns : List Int} {m : Int} (h1 : m ∈ ns) (h2 : ∀ y ∈ ns, y ≤ m) : m = mx ns := by
  have a := mx_ge h1
  have b := h2 _ (mx_mem (List.ne_nil_of_mem h1))
  omega
theorem gcMin_of {ns : List Int} (e : intsOf xs = some ns) : gcMinA [.lst xs] M Q = (ns ≠ [] ∧ Q (.int (mn ns)) M) := propext ⟨fun ⟨ms, h, h0, q⟩ => by
    rw [e] at h
    cases h
    have hn : ns ≠ [] := List.length_pos_iff.mp h0
    exact ⟨hn, q _ (mn_mem hn) fun y hy => mn_le hy⟩, fun ⟨hn, q⟩ => ⟨ns, e, List.length_pos_iff.mpr hn, fun m h1 h2 => by rw [mn_eq h1 h2]; exact q⟩⟩
theorem gcMinT_of {ns : List Int} (e : intsOf xs = some ns) : gcMinA [.tup xs] M Q = (ns ≠ [] ∧ Q (.int (mn ns)) M) := propext ⟨fun ⟨ms, h, h0, q⟩ => by
    rw [e] at h
    cases h
    have hn : ns ≠ [] := List.length_pos_iff.mp h0
    exact ⟨hn, q _ (mn_mem hn) fun y hy => mn_le hy⟩, fun ⟨hn, q⟩ => ⟨ns, e, List.length_pos_iff.mpr hn, fun m h1 h2 => by rw [mn_eq h1 h2]; exact q⟩⟩
theorem gcMax_of {ns : List Int} (e : intsOf xs = some ns) : gcMaxA [.lst xs] M Q = (ns ≠ [] ∧ Q (.int (mx ns)) M) := propext ⟨fun ⟨ms, h, h0, q⟩ => by
    rw [e] at h
    cases h
    have hn : ns ≠ [] := List.length_pos_iff.mp h0
    exact ⟨hn, q _ (mx_mem hn) fun y hy => mx_ge hy⟩, fun ⟨hn, q⟩ => ⟨ns, e, List.length_pos_iff.mpr hn, fun m h1 h2 => by rw [mx_eq h1 h2]; exact q⟩⟩
theorem gcMaxT_of {ns : List Int} (e : intsOf xs = some ns) : gcMaxA [.tup xs] M Q = (ns ≠ [] ∧ Q (.int (mx ns)) M) := propext ⟨fun ⟨ms, h, h0, q⟩ => by
    rw [e] at h
    cases h
    have hn : ns ≠ [] := List.length_pos_iff.mp h0
    exact ⟨hn, q _ (mx_mem hn) fun y hy => mx_ge hy⟩, fun ⟨hn, q⟩ => ⟨ns, e, List.length_pos_iff.mpr hn, fun m h1 h2 => by rw [mx_eq h1 h2]; exact q⟩⟩
theorem gcMin_ints {ns : List Int} : gcMinA [.lst (ns.map .int)] M Q = (ns ≠ [] ∧ Q (.int (mn ns)) M) := gcMin_of (intsOf_map ns)
theorem gcMinT_ints {ns : List Int} : gcMinA [.tup (ns.map .int)] M Q = (ns ≠ [] ∧ Q (.int (mn ns)) M) := gcMinT_of (intsOf_map ns)
theorem gcMax_ints {ns : List Int} : gcMaxA [.lst (ns.map .int)] M Q = (ns ≠ [] ∧ Q (.int (mx ns)) M) := gcMax_of (intsOf_map ns)
theorem gcMaxT_ints {ns : List Int} : gcMaxA [.tup (ns.map .int)] M Q = (ns ≠ [] ∧ Q (.int (mx ns)) M) := gcMaxT_of (intsOf_map ns)
theorem intsOf_mapf {α : Type} (f : α → Int) : ∀ zs : List α, intsOf (zs.map fun z => D.int (f z)) = some (zs.map f)
  | [] => rfl
  | z :: r => by
    have h := intsOf_mapf f r
    show (intsOf (r.map fun z => D.int (f z))).map _ = _
    rw [h]
    rfl
theorem blsOf_mapf {α : Type} (f : α → Bool) : ∀ zs : List α, blsOf (zs.map fun z => D.bl (f z)) = some (zs.map f)
  | [] => rfl
  | z :: r => by
    have h := blsOf_mapf f r
    show (blsOf (r.map fun z => D.bl (f z))).map _ = _
    rw [h]
    rfl
theorem gcMin_f {α : Type} {f : α → Int} {zs : List α} : gcMinA [.lst (zs.map fun z => D.int (f z))] M Q = (zs.map f ≠ [] ∧ Q (.int (mn (zs.map f))) M) := gcMin_of (intsOf_mapf f zs)
theorem gcMax_f {α : Type} {f : α → Int} {zs : List α} : gcMaxA [.lst (zs.map fun z => D.int (f z))] M Q = (zs.map f ≠ [] ∧ Q (.int (mx (zs.map f))) M) := gcMax_of (intsOf_mapf f zs)
theorem gcMin_2 : gcMinA [.int i, .int j] M Q = Q (.int (min i j)) M := by
  have e : (if j < i then j else i) = min i j := by split <;> omega
  rw [← e]
  rfl
theorem gcMax_2 : gcMaxA [.int i, .int j] M Q = Q (.int (max i j)) M := by
  have e : (if j > i then j else i) = max i j := by split <;> omega
  rw [← e]
  rfl
theorem gcSum_ints {ns : List Int} : gcSum [.lst (ns.map .int)] M Q = Q (.int ns.sum) M := propext ⟨fun ⟨ms, h, q⟩ => by
    rw [intsOf_map] at h
    cases h
    exact q, fun q => ⟨ns, intsOf_map ns, q⟩⟩
theorem gcSum_f {α : Type} {f : α → Int} {zs : List α} : gcSum [.lst (zs.map fun z => D.int (f z))] M Q = Q (.int (zs.map f).sum) M := propext ⟨fun ⟨ms, h, q⟩ => by
    rw [intsOf_mapf] at h
    cases h
    exact q, fun q => ⟨_, intsOf_mapf f zs, q⟩⟩
theorem gcBls_f {α : Type} {g : List Bool → Bool} {f : α → Bool} {zs : List α} : gcBls g [.lst (zs.map fun z => D.bl (f z))] M Q = Q (.bl (g (zs.map f))) M := propext ⟨fun ⟨ms, h, q⟩ => by
    rw [blsOf_mapf] at h
    cases h
    exact q, fun q => ⟨_, blsOf_mapf f zs, q⟩⟩
theorem all_mapid {α : Type} {f : α → Bool} {zs : List α} : (zs.map f).all _root_.id = zs.all f := by simp
theorem any_mapid {α : Type} {f : α → Bool} {zs : List α} : (zs.map f).any _root_.id = zs.any f := by simp
theorem at_0 {α : Type} {a : α} {l : List α} : atI (a :: l) 0 = some a := by
  unfold atI ixN
  rw [if_pos (by decide), if_pos (by simp <;> omega)]
  rfl
theorem at_1 {α : Type} {a b : α} {l : List α} : atI (a :: b :: l) 1 = some b := by
  unfold atI ixN
  rw [if_pos (by decide), if_pos (by simp <;> omega)]
  rfl
theorem at_2 {α : Type} {a b c : α} {l : List α} : atI (a :: b :: c :: l) 2 = some c := by
  unfold atI ixN
  rw [if_pos (by decide), if_pos (by simp <;> omega)]
  rfl
theorem at_3 {α : Type} {a b c d : α} {l : List α} : atI (a :: b :: c :: d :: l) 3 = some d := by
  unfold atI ixN
  rw [if_pos (by decide), if_pos (by simp <;> omega)]
  rfl
theorem at_last {α : Type} {a : α} {l : List α} : atI (l ++ [a]) (-1) = some a := by
  unfold atI ixN
  rw [if_neg (by decide), if_pos (by simp <;> omega)]
  show (l ++ [a])[(-1 + ((l ++ [a]).length : Int)).toNat]? = _
  rw [List.length_append, List.length_singleton, show (-1 + ((l.length + 1 : Nat) : Int)).toNat = l.length by omega]
  simp
def nof : Sl → Bool
  | .o _ => false
  | _ => true
theorem noOwn_nil : noOwn r [] = true := rfl
theorem noOwn_1 {k : Nat} : noOwn r [k] = (match r.sl[k]? with | some s => nof s | none => true) := by
  show ((match r.sl[k]? with
    | some (.o _) => false
    | _ => true) && _) = _
  cases h : r.sl[k]? with
  | none => rfl
  | some s => cases s <;> rfl
theorem noOwn_2 {k j : Nat} : noOwn r [k, j] = ((match r.sl[k]? with | some s => nof s | none => true) && (match r.sl[j]? with | some s => nof s | none => true)) := by
  have h : noOwn r [k, j] = (noOwn r [k] && noOwn r [j]) := by
    show (_ && (_ && true)) = ((_ && true) && (_ && true))
    simp
  rw [h, noOwn_1, noOwn_1]
theorem nof_n : nof .n = true := rfl
theorem nof_v {d : D} : nof (.v d) = true := rfl
theorem nof_b {k : Bool} {ds : List D} : nof (.b k ds) = true := rfl
theorem nof_s {ns : List Int} : nof (.s ns) = true := rfl
theorem zipD_map {α β : Type} {f : α → D} {g : β → D} : ∀ {as : List α} {bs : List β}, zipD (as.map f) (bs.map g) = (as.zip bs).map fun p => .tup [f p.1, g p.2]
  | [], _ => rfl
  | _ :: _, [] => rfl
  | a :: as, b :: bs => congrArg (_ :: ·) (zipD_map (as := as) (bs := bs))
theorem enumD_map {α : Type} {f : α → D} : ∀ {as : List α} {k : Nat}, enumD k (as.map f) = (as.zipIdx k).map fun p => .tup [.int (p.2 : Nat), f p.1]
  | [], _ => rfl
  | a :: as, k => congrArg (_ :: ·) (enumD_map (as := as) (k := k + 1))
end
section
variable {gt : GG} {gtt : GT} {ge : GE} {r : DL.Fr} {M : Mem} {Q : List D → Mem → Prop} {α : Type} {enc : α → D} {f : α → D}
theorem lc_mp {xs : List α} {acc : List D} (h : ∀ x ∈ xs, ∀ Q' : D → Mem → Prop, Q' (f x) M → gt (enc x) r M fun r1 M1 => ge r1 M1 Q') (hz : acc.length + xs.length ≤ sizeLine) (q : Q (acc ++ xs.map f) M) : lcD gt gYes ge r (xs.map enc) acc M Q := by
  induction xs generalizing acc with
  | nil =>
    show Q acc M
    simpa using q
  | cons x xs ih =>
    have hz' : acc.length + (xs.length + 1) ≤ sizeLine := hz
    refine h x (List.mem_cons_self ..) _ ⟨by omega, ih (fun y hy => h y (List.mem_cons_of_mem _ hy)) ?_ ?_⟩
    · rw [List.length_append, List.length_cons, List.length_nil]; omega
    · rw [List.append_assoc]; exact q
theorem lc_fp {p : α → Bool} {xs : List α} {acc : List D}
    (h : ∀ x ∈ xs, ∀ Q' : D → Mem → Prop, ∀ P' : Mem → Prop, (p x = true → Q' (f x) M) → (p x = false → P' M) → gt (enc x) r M fun r1 M1 => gtt r1 M1 fun b M2 => if b = true then ge r1 M2 Q' else P' M2)
    (hz : acc.length + xs.length ≤ sizeLine) (q : Q (acc ++ (xs.filter p).map f) M) : lcD gt gtt ge r (xs.map enc) acc M Q := by
  induction xs generalizing acc with
  | nil =>
    show Q acc M
    simpa using q
  | cons x xs ih =>
    have hz' : acc.length + (xs.length + 1) ≤ sizeLine := hz
    refine h x (List.mem_cons_self ..) (fun z M3 => acc.length < sizeLine ∧ lcD gt gtt ge r (xs.map enc) (acc ++ [z]) M3 Q) (fun M2 => lcD gt gtt ge r (xs.map enc) acc M2 Q) (fun e => ⟨by omega, ih (fun y hy => h y (List.mem_cons_of_mem _ hy)) ?_ ?_⟩) fun e => ih (fun y hy => h y (List.mem_cons_of_mem _ hy)) (by omega) ?_
    · rw [List.length_append, List.length_cons, List.length_nil]; omega
    · rw [List.append_assoc]
      rw [List.filter_cons_of_pos e] at q
      exact q
    · rw [List.filter_cons_of_neg (by rw [e]; simp)] at q
      exact q
theorem loop_mp {gb : GS} {D' : DEnds} (I : List α → DL.Fr → Mem → Prop) (h0 : ∀ r M, I [] r M → D'.nx r M)
    (h1 : ∀ x xs r M, I (x :: xs) r M → ∀ N : DL.Fr → Mem → Prop, (∀ r M, I xs r M → N r M) → gt (enc x) r M fun r' M' => gb { D' with nx := N, ct := N, bk := D'.nx } r' M') :
    ∀ xs r M, I xs r M → loopD gt gb (xs.map enc) D' r M
  | [], r, M, h => h0 r M h
  | x :: xs, r, M, h => h1 x xs r M h _ (loop_mp I h0 h1 xs)
end
section
variable {M : Mem} {Q : D → Mem → Prop}
theorem isi_non_int  : gcIsi [.non, .ty "int"] M Q = Q (.bl false) M := propext ⟨fun ⟨_, t, h, q⟩ => by cases h; exact q, fun q => ⟨by decide, "NoneType", rfl, q⟩⟩
theorem isi_non_bool  : gcIsi [.non, .ty "bool"] M Q = Q (.bl false) M := propext ⟨fun ⟨_, t, h, q⟩ => by cases h; exact q, fun q => ⟨by decide, "NoneType", rfl, q⟩⟩
theorem isi_non_str  : gcIsi [.non, .ty "str"] M Q = Q (.bl false) M := propext ⟨fun ⟨_, t, h, q⟩ => by cases h; exact q, fun q => ⟨by decide, "NoneType", rfl, q⟩⟩
theorem isi_non_tuple  : gcIsi [.non, .ty "tuple"] M Q = Q (.bl false) M := propext ⟨fun ⟨_, t, h, q⟩ => by cases h; exact q, fun q => ⟨by decide, "NoneType", rfl, q⟩⟩
theorem isi_non_list  : gcIsi [.non, .ty "list"] M Q = Q (.bl false) M := propext ⟨fun ⟨_, t, h, q⟩ => by cases h; exact q, fun q => ⟨by decide, "NoneType", rfl, q⟩⟩
theorem isi_non_dict  : gcIsi [.non, .ty "dict"] M Q = Q (.bl false) M := propext ⟨fun ⟨_, t, h, q⟩ => by cases h; exact q, fun q => ⟨by decide, "NoneType", rfl, q⟩⟩
theorem isi_bl_int (z : Bool) : gcIsi [.bl z, .ty "int"] M Q = Q (.bl true) M := propext ⟨fun ⟨_, t, h, q⟩ => by cases h; exact q, fun q => ⟨by decide, "bool", rfl, q⟩⟩
theorem isi_bl_bool (z : Bool) : gcIsi [.bl z, .ty "bool"] M Q = Q (.bl true) M := propext ⟨fun ⟨_, t, h, q⟩ => by cases h; exact q, fun q => ⟨by decide, "bool", rfl, q⟩⟩
theorem isi_bl_str (z : Bool) : gcIsi [.bl z, .ty "str"] M Q = Q (.bl false) M := propext ⟨fun ⟨_, t, h, q⟩ => by cases h; exact q, fun q => ⟨by decide, "bool", rfl, q⟩⟩
theorem isi_bl_tuple (z : Bool) : gcIsi [.bl z, .ty "tuple"] M Q = Q (.bl false) M := propext ⟨fun ⟨_, t, h, q⟩ => by cases h; exact q, fun q => ⟨by decide, "bool", rfl, q⟩⟩
theorem isi_bl_list (z : Bool) : gcIsi [.bl z, .ty "list"] M Q = Q (.bl false) M := propext ⟨fun ⟨_, t, h, q⟩ => by cases h; exact q, fun q => ⟨by decide, "bool", rfl, q⟩⟩
theorem isi_bl_dict (z : Bool) : gcIsi [.bl z, .ty "dict"] M Q = Q (.bl false) M := propext ⟨fun ⟨_, t, h, q⟩ => by cases h; exact q, fun q => ⟨by decide, "bool", rfl, q⟩⟩
theorem isi_int_int (z : Int) : gcIsi [.int z, .ty "int"] M Q = Q (.bl true) M := propext ⟨fun ⟨_, t, h, q⟩ => by cases h; exact q, fun q => ⟨by decide, "int", rfl, q⟩⟩
theorem isi_int_bool (z : Int) : gcIsi [.int z, .ty "bool"] M Q = Q (.bl false) M := propext ⟨fun ⟨_, t, h, q⟩ => by cases h; exact q, fun q => ⟨by decide, "int", rfl, q⟩⟩
theorem isi_int_str (z : Int) : gcIsi [.int z, .ty "str"] M Q = Q (.bl false) M := propext ⟨fun ⟨_, t, h, q⟩ => by cases h; exact q, fun q => ⟨by decide, "int", rfl, q⟩⟩
theorem isi_int_tuple (z : Int) : gcIsi [.int z, .ty "tuple"] M Q = Q (.bl false) M := propext ⟨fun ⟨_, t, h, q⟩ => by cases h; exact q, fun q => ⟨by decide, "int", rfl, q⟩⟩
theorem isi_int_list (z : Int) : gcIsi [.int z, .ty "list"] M Q = Q (.bl false) M := propext ⟨fun ⟨_, t, h, q⟩ => by cases h; exact q, fun q => ⟨by decide, "int", rfl, q⟩⟩
theorem isi_int_dict (z : Int) : gcIsi [.int z, .ty "dict"] M Q = Q (.bl false) M := propext ⟨fun ⟨_, t, h, q⟩ => by cases h; exact q, fun q => ⟨by decide, "int", rfl, q⟩⟩
theorem isi_str_int (z : PySem.Str) : gcIsi [.str z, .ty "int"] M Q = Q (.bl false) M := propext ⟨fun ⟨_, t, h, q⟩ => by cases h; exact q, fun q => ⟨by decide, "str", rfl, q⟩⟩
theorem isi_str_bool (z : PySem.Str) : gcIsi [.str z, .ty "bool"] M Q = Q (.bl false) M := propext ⟨fun ⟨_, t, h, q⟩ => by cases h; exact q, fun q => ⟨by decide, "str", rfl, q⟩⟩
theorem isi_str_str (z : PySem.Str) : gcIsi [.str z, .ty "str"] M Q = Q (.bl true) M := propext ⟨fun ⟨_, t, h, q⟩ => by cases h; exact q, fun q => ⟨by decide, "str", rfl, q⟩⟩
theorem isi_str_tuple (z : PySem.Str) : gcIsi [.str z, .ty "tuple"] M Q = Q (.bl false) M := propext ⟨fun ⟨_, t, h, q⟩ => by cases h; exact q, fun q => ⟨by decide, "str", rfl, q⟩⟩
theorem isi_str_list (z : PySem.Str) : gcIsi [.str z, .ty "list"] M Q = Q (.bl false) M := propext ⟨fun ⟨_, t, h, q⟩ => by cases h; exact q, fun q => ⟨by decide, "str", rfl, q⟩⟩
theorem isi_str_dict (z : PySem.Str) : gcIsi [.str z, .ty "dict"] M Q = Q (.bl false) M := propext ⟨fun ⟨_, t, h, q⟩ => by cases h; exact q, fun q => ⟨by decide, "str", rfl, q⟩⟩
theorem isi_tup_int (z : List D) : gcIsi [.tup z, .ty "int"] M Q = Q (.bl false) M := propext ⟨fun ⟨_, t, h, q⟩ => by cases h; exact q, fun q => ⟨by decide, "tuple", rfl, q⟩⟩
theorem isi_tup_bool (z : List D) : gcIsi [.tup z, .ty "bool"] M Q = Q (.bl false) M := propext ⟨fun ⟨_, t, h, q⟩ => by cases h; exact q, fun q => ⟨by decide, "tuple", rfl, q⟩⟩
theorem isi_tup_str (z : List D) : gcIsi [.tup z, .ty "str"] M Q = Q (.bl false) M := propext ⟨fun ⟨_, t, h, q⟩ => by cases h; exact q, fun q => ⟨by decide, "tuple", rfl, q⟩⟩
theorem isi_tup_tuple (z : List D) : gcIsi [.tup z, .ty "tuple"] M Q = Q (.bl true) M := propext ⟨fun ⟨_, t, h, q⟩ => by cases h; exact q, fun q => ⟨by decide, "tuple", rfl, q⟩⟩
theorem isi_tup_list (z : List D) : gcIsi [.tup z, .ty "list"] M Q = Q (.bl false) M := propext ⟨fun ⟨_, t, h, q⟩ => by cases h; exact q, fun q => ⟨by decide, "tuple", rfl, q⟩⟩
theorem isi_tup_dict (z : List D) : gcIsi [.tup z, .ty "dict"] M Q = Q (.bl false) M := propext ⟨fun ⟨_, t, h, q⟩ => by cases h; exact q, fun q => ⟨by decide, "tuple", rfl, q⟩⟩
theorem isi_lst_int (z : List D) : gcIsi [.lst z, .ty "int"] M Q = Q (.bl false) M := propext ⟨fun ⟨_, t, h, q⟩ => by cases h; exact q, fun q => ⟨by decide, "list", rfl, q⟩⟩
theorem isi_lst_bool (z : List D) : gcIsi [.lst z, .ty "bool"] M Q = Q (.bl false) M := propext ⟨fun ⟨_, t, h, q⟩ => by cases h; exact q, fun q => ⟨by decide, "list", rfl, q⟩⟩
theorem isi_lst_str (z : List D) : gcIsi [.lst z, .ty "str"] M Q = Q (.bl false) M := propext ⟨fun ⟨_, t, h, q⟩ => by cases h; exact q, fun q => ⟨by decide, "list", rfl, q⟩⟩
theorem isi_lst_tuple (z : List D) : gcIsi [.lst z, .ty "tuple"] M Q = Q (.bl false) M := propext ⟨fun ⟨_, t, h, q⟩ => by cases h; exact q, fun q => ⟨by decide, "list", rfl, q⟩⟩
theorem isi_lst_list (z : List D) : gcIsi [.lst z, .ty "list"] M Q = Q (.bl true) M := propext ⟨fun ⟨_, t, h, q⟩ => by cases h; exact q, fun q => ⟨by decide, "list", rfl, q⟩⟩
theorem isi_lst_dict (z : List D) : gcIsi [.lst z, .ty "dict"] M Q = Q (.bl false) M := propext ⟨fun ⟨_, t, h, q⟩ => by cases h; exact q, fun q => ⟨by decide, "list", rfl, q⟩⟩
theorem isi_dic_int (z : List (Key × D)) : gcIsi [.dic z, .ty "int"] M Q = Q (.bl false) M := propext ⟨fun ⟨_, t, h, q⟩ => by cases h; exact q, fun q => ⟨by decide, "dict", rfl, q⟩⟩
theorem isi_dic_bool (z : List (Key × D)) : gcIsi [.dic z, .ty "bool"] M Q = Q (.bl false) M := propext ⟨fun ⟨_, t, h, q⟩ => by cases h; exact q, fun q => ⟨by decide, "dict", rfl, q⟩⟩
theorem isi_dic_str (z : List (Key × D)) : gcIsi [.dic z, .ty "str"] M Q = Q (.bl false) M := propext ⟨fun ⟨_, t, h, q⟩ => by cases h; exact q, fun q => ⟨by decide, "dict", rfl, q⟩⟩
theorem isi_dic_tuple (z : List (Key × D)) : gcIsi [.dic z, .ty "tuple"] M Q = Q (.bl false) M := propext ⟨fun ⟨_, t, h, q⟩ => by cases h; exact q, fun q => ⟨by decide, "dict", rfl, q⟩⟩
theorem isi_dic_list (z : List (Key × D)) : gcIsi [.dic z, .ty "list"] M Q = Q (.bl false) M := propext ⟨fun ⟨_, t, h, q⟩ => by cases h; exact q, fun q => ⟨by decide, "dict", rfl, q⟩⟩
theorem isi_dic_dict (z : List (Key × D)) : gcIsi [.dic z, .ty "dict"] M Q = Q (.bl true) M := propext ⟨fun ⟨_, t, h, q⟩ => by cases h; exact q, fun q => ⟨by decide, "dict", rfl, q⟩⟩
end
end DL
set_option Elab.async false
set_option linter.all false
namespace DL
open PySem PySem.Spec PySem.W PyProof.Rows L2
section
variable {M : Mem} {Q : D → Mem → Prop} {r : DL.Fr} {b : Bool} {A B : Prop}
def blK (z : D) (A B : Prop) : Prop := match z with
  | .bl true => A
  | .bl false => B
  | _ => False
theorem blK_bl : blK (.bl b) A B = if b = true then A else B := by cases b <;> simp [blK]
theorem gAndV_k {ga gb : GE} : gAndV ga gb r M Q = ga r M fun d M1 => blK d (gb r M1 Q) (Q (.bl false) M1) := rfl
theorem gOrV_k {ga gb : GE} : gOrV ga gb r M Q = ga r M fun d M1 => blK d (Q (.bl true) M1) (gb r M1 Q) := rfl
theorem gCh_k {go go' : GO} {ga gb gc : GE} : gCh go go' ga gb gc r M Q = ga r M fun d M1 => gb r M1 fun e M2 => go d e M2 fun z M3 => blK z (gc r M3 fun f M4 => go' e f M4 Q) (Q (.bl false) M3) := rfl
theorem ite_bf : (if b = false then A else B) = if b = true then B else A := by cases b <;> simp
end
mutual
/-- data: no reference, no type within -/
def D.da : D → Bool
  | .ref _ | .ty _ => false
  | .tup xs | .lst xs => D.daL xs
  | .dic kvs => D.daK kvs
  | _ => true
def D.daL : List D → Bool
  | [] => true
  | d :: r => d.da && D.daL r
def D.daK : List (Key × D) → Bool
  | [] => true
  | (_, d) :: r => d.da && D.daK r
end
theorem D.daL_mem : ∀ {ds : List D}, D.daL ds = true → ∀ d ∈ ds, d.da = true
  | d :: r, h, e, he => by
    have h' : (d.da && D.daL r) = true := h
    rw [Bool.and_eq_true] at h'
    rcases List.mem_cons.mp he with rfl | he
    · exact h'.1
    · exact D.daL_mem h'.2 e he
theorem D.daL_of : ∀ {ds : List D}, (∀ d ∈ ds, d.da = true) → D.daL ds = true
  | [], _ => rfl
  | d :: r, h => by
    show (d.da && D.daL r) = true
    rw [h d (List.mem_cons_self ..), D.daL_of fun x hx => h x (List.mem_cons_of_mem _ hx)]
    rfl
theorem D.da_tup {xs : List D} : D.da (.tup xs) = D.daL xs := by simp only [D.da]
theorem D.da_lst {xs : List D} : D.da (.lst xs) = D.daL xs := by simp only [D.da]
theorem rep_one (k : Int) (d : D) : repD k [d] = List.replicate k.toNat d := by
  unfold repD
  induction k.toNat with
  | zero => rfl
  | succ n ih => rw [List.replicate_succ, List.flatten_cons, ih, List.replicate_succ]; rfl
theorem sz0 : (0 < sizeLine) = True := by rw [sizeLine_eq]; decide
theorem sz1 : (1 < sizeLine) = True := by rw [sizeLine_eq]; decide
theorem sz2 : (2 < sizeLine) = True := by rw [sizeLine_eq]; decide
theorem sz3 : (3 < sizeLine) = True := by rw [sizeLine_eq]; decide
theorem sz4 : (4 < sizeLine) = True := by rw [sizeLine_eq]; decide
theorem sz5 : (5 < sizeLine) = True := by rw [sizeLine_eq]; decide
theorem sz6 : (6 < sizeLine) = True := by rw [sizeLine_eq]; decide
theorem sz7 : (7 < sizeLine) = True := by rw [sizeLine_eq]; decide
theorem sz8 : (8 < sizeLine) = True := by rw [sizeLine_eq]; decide
theorem sz9 : (9 < sizeLine) = True := by rw [sizeLine_eq]; decide
theorem se0 : (0 ≤ sizeLine) = True := by rw [sizeLine_eq]; decide
theorem se1 : (1 ≤ sizeLine) = True := by rw [sizeLine_eq]; decide
theorem se2 : (2 ≤ sizeLine) = True := by rw [sizeLine_eq]; decide
theorem se3 : (3 ≤ sizeLine) = True := by rw [sizeLine_eq]; decide
theorem se4 : (4 ≤ sizeLine) = True := by rw [sizeLine_eq]; decide
theorem se5 : (5 ≤ sizeLine) = True := by rw [sizeLine_eq]; decide
theorem se6 : (6 ≤ sizeLine) = True := by rw [sizeLine_eq]; decide
theorem se7 : (7 ≤ sizeLine) = True := by rw [sizeLine_eq]; decide
theorem se8 : (8 ≤ sizeLine) = True := by rw [sizeLine_eq]; decide
theorem se9 : (9 ≤ sizeLine) = True := by rw [sizeLine_eq]; decide
end DL
set_option Elab.async false
set_option linter.all false
namespace DL
open PySem PySem.Spec PySem.W PyProof.Rows L2
end DL
set_option Elab.async false
set_option linter.all false
set_option maxRecDepth 100000
namespace DL
open PySem PySem.Spec PySem.W PyProof.Rows L2
def putFl (f : PySem.Str) (v : Fl) : List (PySem.Str × Fl) → List (PySem.Str × Fl)
  | [] => [(f, v)]
  | (g, x) :: r => if g = f then (g, v) :: r else (g, x) :: putFl f v r
section
variable {K : PySem.W.Frag} {A : Addr → Prop} {H : Hp} {O : Own} {a : Addr}
theorem FlsOk.no {f : PySem.Str} : ∀ {vs : List (PySem.Str × V)} {fs : List (PySem.Str × Fl)}, FlsOk K A H O a vs fs → fs.lookup f = none → vs.lookup f = none
  | _, _, .nil, h => rfl
  | _, _, @FlsOk.v _ _ _ _ _ g v' d' vs' fs' i t, h => by
    cases hb : (f == g) with
    | true =>
      simp only [List.lookup, hb] at h
      cases h
    | false =>
      simp only [List.lookup, hb] at h ⊢
      exact FlsOk.no t h
  | _, _, @FlsOk.o _ _ _ _ _ g l m vs' fs' oo i t, h => by
    cases hb : (f == g) with
    | true =>
      simp only [List.lookup, hb] at h
      cases h
    | false =>
      simp only [List.lookup, hb] at h ⊢
      exact FlsOk.no t h
theorem FlsOk.put {f : PySem.Str} {v : V} {d : D} (q : Is K A H v d) : ∀ {vs : List (PySem.Str × V)} {fs : List (PySem.Str × Fl)}, FlsOk K A H O a vs fs → FlsOk K A H O a (putF f v vs) (putFl f (.v d) fs)
  | _, _, .nil => .v q .nil
  | _, _, @FlsOk.v _ _ _ _ _ g v' d' vs' fs' i t => by
    show FlsOk K A H O a (if g = f then (g, v) :: vs' else (g, v') :: putF f v vs') (if g = f then (g, .v d) :: fs' else (g, .v d') :: putFl f (.v d) fs')
    split
    · exact .v q t
    · exact .v i (FlsOk.put q t)
  | _, _, @FlsOk.o _ _ _ _ _ g l m vs' fs' oo i t => by
    show FlsOk K A H O a (if g = f then (g, v) :: vs' else (g, .ref l) :: putF f v vs') (if g = f then (g, .v d) :: fs' else (g, .o m) :: putFl f (.v d) fs')
    split
    · exact .v q t
    · exact .o oo i (FlsOk.put q t)
theorem FlsOk.len : ∀ {vs : List (PySem.Str × V)} {fs : List (PySem.Str × Fl)}, FlsOk K A H O a vs fs → vs.length = fs.length
  | _, _, .nil => rfl
  | _, _, .v _ t => congrArg (· + 1) (FlsOk.len t)
  | _, _, .o _ _ t => congrArg (· + 1) (FlsOk.len t)
end
section
variable {X : Cx} {w p w1 w2 : Bool} {o e a b : Expr} {es : List Expr} {g ga gb ge go : GE} {gs : GA} {B : Addr → Prop} {E : En} {σ : L2.St} {H H' : Hp} {r : DL.Fr} {M M' : Mem} {O O' : Own} {pos pos' apos cpos : Pos} {l : Addr} {f : PySem.Str}
/-- e.f -/
def fldK (K : PySem.W.Frag) (f : PySem.Str) (d : D) (M : Mem) (Q : D → Mem → Prop) : Prop := match d with
  | .ref a => match M a with
    | some (.ins C fs) => (Cls K C ∧ NoAttr K C f) ∧ (match fs.lookup f with
      | some (.v z) => Q z M
      | _ => False)
    | _ => False
  | _ => False
theorem fldK_ref {K : PySem.W.Frag} {a : Addr} {Q : D → Mem → Prop} : fldK K f (.ref a) M Q = match M a with
    | some (.ins C fs) => (Cls K C ∧ NoAttr K C f) ∧ (match fs.lookup f with
      | some (.v z) => Q z M
      | _ => False)
    | _ => False := rfl
def gFld (K : PySem.W.Frag) (f : PySem.Str) (ga : GE) : GE := fun r M Q => ga r M fun d M1 => fldK K f d M1 Q
/-- o.f = e -/
def putFK (K : PySem.W.Frag) (f : PySem.Str) (z d : D) (M : Mem) (Q : Mem → Prop) : Prop := match d with
  | .ref a => match M a with
    | some (.ins C fs) => (Cls K C ∧ NoAttr K C f) ∧ fs.length < 1000 ∧ Q (mup M a (.ins C (putFl f (.v z) fs)))
    | _ => False
  | _ => False
theorem putFK_ref {K : PySem.W.Frag} {a : Addr} {z : D} {Q : Mem → Prop} : putFK K f z (.ref a) M Q = match M a with
    | some (.ins C fs) => (Cls K C ∧ NoAttr K C f) ∧ fs.length < 1000 ∧ Q (mup M a (.ins C (putFl f (.v z) fs)))
    | _ => False := rfl
def gPutF (K : PySem.W.Frag) (f : PySem.Str) (ga ge : GE) : GS := fun D r M => ge r M fun z M1 => ga r M1 fun d M2 => putFK K f z d M2 fun M3 => D.nx r M3
/-- o.f = [..], list(..): a new list in memory -/
def gPutFM (K : PySem.W.Frag) (f : PySem.Str) (ga : GE) (gf : GF) : GS := fun D r M => gf r M fun m M1 => ∀ l, M1 l = none → ga r (mup M1 l (.om m)) fun d M2 => putFK K f (.ref l) d M2 fun M3 => D.nx r M3
/-- what stands there, seen as it is now -/
def drfK (d : D) (M : Mem) (Q : D → Mem → Prop) : Prop := match d with
  | .ref l => match M l with
    | some (.om (.lst ds)) => Q (.lst ds) M
    | some (.om (.dic ds)) => Q (.dic ds) M
    | _ => False
  | _ => False
theorem drfK_ref {Q : D → Mem → Prop} : drfK (.ref l) M Q = match M l with
    | some (.om (.lst ds)) => Q (.lst ds) M
    | some (.om (.dic ds)) => Q (.dic ds) M
    | _ => False := rfl
def gDrf (ga : GE) : GE := fun r M Q => ga r M fun d M1 => drfK d M1 Q
def mlK (d : D) (M : Mem) (k : Addr → List D → Prop) : Prop := match d with
  | .ref l => match M l with
    | some (.om (.lst ds)) => k l ds
    | _ => False
  | _ => False
theorem mlK_ref {k : Addr → List D → Prop} : mlK (.ref l) M k = match M l with
    | some (.om (.lst ds)) => k l ds
    | _ => False := rfl
/-- o.append(e) -/
def gMApp (go ge : GE) : GS := fun D r M => go r M fun d M1 => mlK d M1 fun l _ => ge r M1 fun z M2 => mlK (.ref l) M2 fun l ds => ds.length < sizeLine ∧ D.nx r (mup M2 l (.om (.lst (ds ++ [z]))))
end
end DL
set_option Elab.async false
set_option linter.all false
set_option maxRecDepth 100000
namespace DL
open PySem PySem.Spec PySem.W PyProof.Rows L2
section
variable {X : Cx} {w p w1 w2 : Bool} {o e a b : Expr} {es : List Expr} {g ga gb ge go : GE} {gs : GA} {B : Addr → Prop} {E : En} {σ : L2.St} {H H' : Hp} {r : DL.Fr} {M M' : Mem} {O O' : Own} {pos pos' apos cpos : Pos} {l : Addr} {f : PySem.Str}
/-- o.pop(i) -/
def popK (z : D) (ds : List D) (k : D → List D → Prop) : Prop := match z with
  | .int i => (0 ≤ i ∧ i < ds.length ∧ i < 2 ^ 62) ∧ match ds[i.toNat]? with
    | some y => k y (ds.eraseIdx i.toNat)
    | none => False
  | _ => False
theorem popK_int {i : Int} {ds : List D} {k : D → List D → Prop} : popK (.int i) ds k = ((0 ≤ i ∧ i < ds.length ∧ i < 2 ^ 62) ∧ match ds[i.toNat]? with
    | some y => k y (ds.eraseIdx i.toNat)
    | none => False) := rfl
def gMPop (go ge : GE) : GE := fun r M Q => go r M fun d M1 => mlK d M1 fun l _ => ge r M1 fun z M2 => mlK (.ref l) M2 fun l ds => popK z ds fun y ds' => Q y (mup M2 l (.om (.lst ds')))
theorem Rl.mutM {M' : Mem} (s : Step (Mut M O) H (Mut M' O) H') : Rl false M O H M' O H' := ⟨fun z => (nomatch z), s⟩
/-- o.insert(i, e) -/
def insK (z : D) (ds : List D) (y : D) (k : List D → Prop) : Prop := match z with
  | .int i => (0 ≤ i ∧ i < 2 ^ 62 ∧ ds.length < sizeLine) ∧ k (ds.take i.toNat ++ [y] ++ ds.drop i.toNat)
  | _ => False
theorem insK_int {i : Int} {ds : List D} {y : D} {k : List D → Prop} : insK (.int i) ds y k = ((0 ≤ i ∧ i < 2 ^ 62 ∧ ds.length < sizeLine) ∧ k (ds.take i.toNat ++ [y] ++ ds.drop i.toNat)) := rfl
def ins2K (zs ds : List D) (k : List D → Prop) : Prop := match zs with
  | [z, y] => insK z ds y k
  | _ => False
theorem ins2K_2 {z y : D} {ds : List D} {k : List D → Prop} : ins2K [z, y] ds k = insK z ds y k := rfl
def gMIns (go : GE) (gs : GA) : GS := fun D r M => go r M fun d M1 => mlK d M1 fun l _ => gs r M1 fun zs M2 => mlK (.ref l) M2 fun l ds => ins2K zs ds fun ds' => D.nx r (mup M2 l (.om (.lst ds')))
/-- a method's promise: of the class at C -/
structure DefM (P : Program) (w : World) (K : PySem.W.Frag) (mg : PySem.Str → Option Value) (base : Heap) (n : Nat) (C : Addr) (m : PySem.Str) (ks : List AK) (fs : FS) : Prop where
  ex : ∃ f fd ps, FnG P w K mg base n f fd ps (toSp K (.v :: ks) fs) ∧ Cls K C ∧ Meth K C m f ∧ Binds K fd ps []
  mo : MonoF fs
theorem DefM.mono {P : Program} {w : World} {K : PySem.W.Frag} {mg : PySem.Str → Option Value} {base : Heap} {j n : Nat} {C : Addr} {m : PySem.Str} {ks : List AK} {fs : FS} (D : DefM P w K mg base j C m ks fs) (h : j ≤ n := by decide) : DefM P w K mg base n C m ks fs :=
  let ⟨f, fd, ps, F, q⟩ := D.ex
  ⟨⟨f, fd, ps, F.mono h, q⟩, D.mo⟩
def mthK (m : PySem.Str) (tbl : List (Addr × FS)) (d : D) (M : Mem) (k : Addr → FS → Prop) : Prop := match d with
  | .ref a => match M a with
    | some (.ins C fl) => fl.lookup m = none ∧ ∃ fs, (C, fs) ∈ tbl ∧ k a fs
    | _ => False
  | _ => False
theorem mthK_ref {m : PySem.Str} {tbl : List (Addr × FS)} {k : Addr → FS → Prop} : mthK m tbl (.ref l) M k = match M l with
    | some (.ins C fl) => fl.lookup m = none ∧ ∃ fs, (C, fs) ∈ tbl ∧ k l fs
    | _ => False := rfl
def gMeth (m : PySem.Str) (tbl : List (Addr × FS)) (go : GE) (gs : GA) : GE := fun r M Q => go r M fun d M1 => mthK m tbl d M1 fun a fs => gs r M1 fun ds M2 => fs (.ref a :: ds) M2 Q r.ex
variable {n : Nat} {m : PySem.Str} {ks : List AK} {tbl : List (Addr × FS)}
structure DefI (P : Program) (w : World) (K : PySem.W.Frag) (mg : PySem.Str → Option Value) (base : Heap) (n : Nat) (x : PySem.Str) (C : Addr) (ks : List AK) (Fk : Prop) (fs : FS) : Prop where
  ex : ∃ f fd ps, FnG P w K mg base n f fd ps (toSp K (.v :: ks) fs) ∧ Mk K C f ∧ Binds K fd ps []
  mo : MonoF fs
  g : mg x = some (.ref C)
  fk : Fk
theorem DefI.mono {P : Program} {w : World} {K : PySem.W.Frag} {mg : PySem.Str → Option Value} {base : Heap} {j n : Nat} {x : PySem.Str} {C : Addr} {ks : List AK} {Fk : Prop} {fs : FS} (D : DefI P w K mg base j x C ks Fk fs) (h : j ≤ n := by decide) : DefI P w K mg base n x C ks Fk fs :=
  let ⟨f, fd, ps, F, q⟩ := D.ex
  ⟨⟨f, fd, ps, F.mono h, q⟩, D.mo, D.g, D.fk⟩
/-- C(..): what is known of the class, then __init__ -/
def gMake (C : Addr) (Fk : Prop) (fs : FS) (gs : GA) : GE := fun r M Q => gs r M fun ds M1 => Fk → ∀ x, M1 x = none → fs (.ref x :: ds) (mup M1 x (.ins C [])) (fun d M2 => d = .non ∧ Q (.ref x) M2) r.ex
end
end DL
set_option Elab.async false
set_option linter.all false
set_option maxRecDepth 100000
namespace DL
open PySem PySem.Spec PySem.W PyProof.Rows L2
theorem ixT_ints {ns : List Int} {i : Int} {k : Nat → Prop} : ixT (ns.map .int) (.int i) k = (i ∈ ns ∧ k (ns.idxOf i)) := by
  unfold ixT
  rw [intsOf_map]
section
variable {X : Cx} {w p w1 w2 : Bool} {tg e a b : Expr} {g ga gb : GE} {gs : GA} {B : Addr → Prop} {E : En} {σ : L2.St} {H H' : Hp} {r : DL.Fr} {M M' : Mem} {O O' : Own} {pos pos' : Pos}
/-- lo, lo + c, .. -/
def rngC (lo c : Int) (n : Nat) : List D := (List.range n).map fun (i : Nat) => D.int (lo + (i : Int) * c)
def giR3 (gs : GA) : GI := fun r M Q => gs r M fun ds M1 => match ds with
  | [.int i, .int j, .int c] => ∃ n, RgC i j c n ∧ Q (rngC i c n) M1
  | _ => False
/-- list(range(i, j)) -/
def rg2K (x y : D) (k : List D → Prop) : Prop := match x, y with
  | .int i, .int j => RgOk i j ∧ k (rngD i (j - i).toNat)
  | _, _ => False
theorem rg2K_int {i j : Int} {k : List D → Prop} : rg2K (.int i) (.int j) k = (RgOk i j ∧ k (rngD i (j - i).toNat)) := rfl
def gFlR2 (ga gb : GE) : GF := fun r M Q => ga r M fun x M1 => gb r M1 fun y M2 => rg2K x y fun ds => Q (.lst ds) M2
def gFlR1 (ga : GE) : GF := fun r M Q => ga r M fun y M1 => rg2K (.int 0) y fun ds => Q (.lst ds) M1
end
end DL
set_option Elab.async false
set_option linter.all false
set_option maxRecDepth 100000
namespace DL
open PySem PySem.Spec PySem.W PyProof.Rows L2
section
variable {fa : List He.Fa} {fn : List He.DefD} {K : PySem.W.Frag} {mg : Str → Option Value} {P : Program} {w : World} {base : Heap} {k : Nat} {ks : List AK} {fs : FS} {N ps : List Str} {g : GS}
theorem Wor.cls (W : Wor fa fn K mg) (i : Nat) {x : Str} (h : fa[i]? = some (.cls x) := by rfl) : Cls K (He.ga K x) := He.cls_ok (W.c.fact i h)
end
section
variable {X : Cx} {w p w1 w2 : Bool} {tg e a b : Expr} {es : List Expr} {g ga gb : GE} {gs : GA} {B : Addr → Prop} {E : En} {σ : L2.St} {H H' : Hp} {r : DL.Fr} {M M' : Mem} {O O' : Own} {pos pos' : Pos}
/-- least of them, or d -/
def mnD (ns : List Int) (d : Int) : Int := if ns = [] then d else mn ns
def minDK (x y : D) (k : D → Prop) : Prop := match x, y with
  | .lst xs, .int d => ∃ ns, intsOf xs = some ns ∧ k (.int (mnD ns d))
  | .tup xs, .int d => ∃ ns, intsOf xs = some ns ∧ k (.int (mnD ns d))
  | _, _ => False
theorem minDK_lst {ns : List Int} {d : Int} {k : D → Prop} : minDK (.lst (ns.map .int)) (.int d) k = k (.int (mnD ns d)) := by
  show (∃ ms, intsOf (ns.map D.int) = some ms ∧ k (.int (mnD ms d))) = _
  rw [intsOf_map]
  exact propext ⟨fun ⟨ms, e, q⟩ => by cases e; exact q, fun q => ⟨ns, rfl, q⟩⟩
def gMinD (ga gb : GE) : GE := fun r M Q => ga r M fun x M1 => gb r M1 fun y M2 => minDK x y fun d => Q d M2
end
end DL
set_option Elab.async false
set_option linter.all false
set_option maxRecDepth 100000
namespace DL
open PySem PySem.Spec PySem.W PyProof.Rows L2
section
variable {X : Cx} {w p w1 w2 : Bool} {tg e a b : Expr} {es : List Expr} {g ga gb : GE} {gs : GA} {B : Addr → Prop} {E : En} {σ : L2.St} {H H' : Hp} {r : DL.Fr} {M M' : Mem} {O O' : Own} {pos pos' : Pos}
def SameSet (L ns : List Int) : Prop := L.Nodup ∧ ∀ k, k ∈ L ↔ k ∈ ns
theorem SameSet.len {L ns : List Int} (h : SameSet L ns) (hn : ns.Nodup) : L.length = ns.length := ((List.perm_ext_iff_of_nodup h.1 hn).mpr h.2).length_eq
/-- how many different ones -/
def lenSetK (x : D) (k : D → Prop) : Prop := match x with
  | .lst xs => ∃ ns, intsOf xs = some ns ∧ ns.length ≤ 4000 ∧ ∀ L, SameSet L ns → k (.int (L.length : Nat))
  | .tup xs => ∃ ns, intsOf xs = some ns ∧ ns.length ≤ 4000 ∧ ∀ L, SameSet L ns → k (.int (L.length : Nat))
  | _ => False
theorem lenSetK_lst {ns : List Int} {k : D → Prop} : lenSetK (.lst (ns.map .int)) k = (ns.length ≤ 4000 ∧ ∀ L, SameSet L ns → k (.int (L.length : Nat))) := by
  show (∃ ms, intsOf (ns.map D.int) = some ms ∧ _) = _
  rw [intsOf_map]
  exact propext ⟨fun ⟨ms, e, q⟩ => by cases e; exact q, fun q => ⟨ns, rfl, q⟩⟩
theorem lenSetK_tup {ns : List Int} {k : D → Prop} : lenSetK (.tup (ns.map .int)) k = (ns.length ≤ 4000 ∧ ∀ L, SameSet L ns → k (.int (L.length : Nat))) := by
  show (∃ ms, intsOf (ns.map D.int) = some ms ∧ _) = _
  rw [intsOf_map]
  exact propext ⟨fun ⟨ms, e, q⟩ => by cases e; exact q, fun q => ⟨ns, rfl, q⟩⟩
def gLenSet (ga : GE) : GE := fun r M Q => ga r M fun x M1 => lenSetK x fun d => Q d M1
end
end DL
set_option Elab.async false
set_option linter.all false
set_option maxRecDepth 100000
namespace DL
open PySem PySem.Spec PySem.W PyProof.Rows L2
section
variable {X : Cx} {w p w1 w2 : Bool} {tg e a b o iter elt : Expr} {es : List Expr} {g ga gb go ge : GE} {gs : GA} {B : Addr → Prop} {E : En} {σ : L2.St} {H H' : Hp} {r : DL.Fr} {M M' : Mem} {O O' : Own} {pos pos' apos cpos : Pos} {gi : GI} {gt : GG} {gtt : GT} {ifs : List Expr} {scope : Scope} {own : List (Str × Nat)} {ws : List Nat}
/-- a list or a tuple that a slot holds, lent or not -/
def giBA (i : Nat) : GI := fun r M Q => match r.sl[i]? with
  | some (.b _ ds) => Q ds M
  | some (.v (.lst ds)) => Q ds M
  | some (.v (.tup ds)) => Q ds M
  | _ => False
def giMem (go : GE) : GI := fun r M Q => go r M fun d M1 => mlK d M1 fun _ ds => Q ds M1
def ixM (ds : List D) (z : D) (k : Nat → Prop) : Prop := (D.ok (.lst ds) = true ∧ z.ok = true) ∧ match ixD ds z 0 with
  | some j => k j
  | none => False
def gMIdx (go ge : GE) : GE := fun r M Q => go r M fun d M1 => mlK d M1 fun l _ => ge r M1 fun z M2 => mlK (.ref l) M2 fun _ ds => ixM ds z fun j => Q (.int (j : Nat)) M2
end
end DL
set_option Elab.async false
set_option linter.all false
set_option maxRecDepth 100000
namespace DL
open PySem PySem.Spec PySem.W PyProof.Rows L2
/-- a table of the top, by name -/
structure Tb (w : World) (K : PySem.W.Frag) (mg : Str → Option Value) (x : Str) (ks : List Str) : Prop where
  g : mg x = some (.ref (He.ga K x))
  d : He.dicW K (He.ga K x) = some (He.keysIn w.params ks)
theorem Tb.kd {w : World} {K : PySem.W.Frag} {mg : Str → Option Value} {x : Str} {ks : List Str} (T : Tb w K mg x ks) : ∃ es n, KDict K w (He.ga K x) es n := He.dicW_ok T.d
theorem keys_find {P : Params} (z : Str) : ∀ {l : List DictEntry} {ks : List Str}, l.map He.keyOf = He.keysIn P ks → (l.find? (·.key.isStr z)).isSome = decide (z ∈ ks) ∧ l.any (·.refKey) = false
  | [], [], _ => ⟨rfl, rfl⟩
  | [], _ :: _, h => by cases h
  | _ :: _, [], h => by cases h
  | e :: l, k :: ks, h => by
    injection (show He.keyOf e :: l.map He.keyOf = some (k, PyData.keyHash P k) :: He.keysIn P ks from h) with h1 h2
    obtain ⟨i1, i2⟩ := keys_find z h2
    have ek : ∃ t, e.key = .str k t := by
      unfold He.keyOf at h1
      split at h1
      · rename_i x t q
        have h4 := (Prod.mk.inj (Option.some.inj h1)).1
        rw [← h4]
        exact ⟨t, q⟩
      · cases h1
    obtain ⟨t, ek⟩ := ek
    have e1 : e.key.isStr z = decide (z = k) := by
      rw [ek, PySem.W.isStr_of]
      show (k == z) = _
      by_cases q : z = k
      · subst q; simp
      · have : (k == z) = false := by simpa using fun h => q h.symm
        rw [this, decide_eq_false q]
    have e2 : e.refKey = false := by
      unfold DictEntry.refKey
      rw [ek]
    refine ⟨?_, by rw [List.any_cons, e2, i2]; rfl⟩
    rw [List.find?_cons, e1]
    by_cases q : z = k
    · subst q; simp
    · rw [decide_eq_false q]
      show (l.find? _).isSome = _
      rw [i1]
      simp [q]
theorem Tb.at_ {w : World} {K : PySem.W.Frag} {mg : Str → Option Value} {x : Str} {ks : List Str} (T : Tb w K mg x ks) (z : Str) : ∃ r, PySem.W.nsIn K (He.ga K x) z = some r ∧ r.isSome = decide (z ∈ ks) := by
  have h := T.d
  unfold He.dicW at h
  cases q : K.lookup (He.ga K x) with
  | none => rw [q] at h; cases h
  | some o =>
    obtain ⟨oc, od, dt, osl⟩ := o
    rw [q] at h
    cases oc with
    | type c =>
      cases od with
      | none =>
        cases dt with
        | dict es n =>
          have h1 : (match decide (c = "dict") && (osl.isEmpty && !(He.ga K x == sysModules)) with
            | true => some (es.toList.map He.keyOf)
            | false => none) = some (He.keysIn w.params ks) := h
          split at h1
          · obtain ⟨f1, f2⟩ := keys_find z (Option.some.inj h1)
            unfold PySem.W.nsIn
            rw [q]
            dsimp only
            cases fd : es.toList.find? (·.key.isStr z) with
            | none =>
              rw [fd] at f1
              rw [f2]
              exact ⟨none, rfl, f1⟩
            | some e =>
              rw [fd] at f1
              exact ⟨some e.val, rfl, f1⟩
          · cases h1
        | _ => cases h
      | some b => cases dt <;> cases h
    | _ => cases od <;> cases dt <;> cases h
section
variable {X : Cx} {p : Bool} {x : Str} {ks : List Str} {pos : Pos}
theorem dg_tab (T : Tb X.w X.K X.mg x ks) (hg : Gl X x := by rfl) (hd : (x == ("__debug__" : Str)) = false := by decide) : DE true p X (.Name x pos) (gC (.ref (He.ga X.K x))) :=
  de_glob (v := .ref _) hg T.g rfl (fun _ _ => .ref _) hd
def goTab (a : Addr) (ks : List Str) (neg : Bool) : GO := fun d e M Q => match d, e with
  | .str z, .ref b => b = a ∧ Q (.bl (if neg = true then !decide (z ∈ ks) else decide (z ∈ ks))) M
  | _, _ => False
theorem goTab_mono {a : Addr} {neg : Bool} : ∀ d e M Q Q', (∀ d M', Q d M' → Q' d M') → goTab a ks neg d e M Q → goTab a ks neg d e M Q' := fun d e M Q Q' h q => by
  unfold goTab at q ⊢
  split at q
  · exact ⟨q.1, h _ _ q.2⟩
  · exact q.elim
theorem od_notinTab (T : Tb X.w X.K X.mg x ks) : OpD X (compareOp .NotIn) (goTab (He.ga X.K x) ks true) := by
  obtain ⟨es, n, D⟩ := T.kd
  refine ⟨⟨_, op_notIn_kd D, fun B E σ H r M O x1 y d e Q R i1 i2 q => ?_⟩, goTab_mono⟩
  unfold goTab at q
  split at q
  · rename_i z b
    obtain ⟨rfl, q⟩ := q
    obtain ⟨r, e1, e2⟩ := T.at_ z
    refine ⟨z, r, is1_str i1, is1_ref i2, e1, ?_⟩
    rw [e2]
    exact fin_v R (.bl _) q
  · exact q.elim
end
/-- the top's facts with its tables -/
structure WorT (fa : List He.Fa) (fn : List He.DefD) (ts : List He.Tab) (w : World) (K : PySem.W.Frag) (mg : Str → Option Value) : Prop extends Wor fa fn K mg where
  t : He.SaysT fa fn ts w K
theorem WorT.tb {fa : List He.Fa} {fn : List He.DefD} {ts : List He.Tab} {w : World} {K : PySem.W.Frag} {mg : Str → Option Value} (W : WorT fa fn ts w K mg) (i j : Nat) {x : Str} {ks : List Str} (h : fa[i]? = some (.glo x) := by rfl) (h2 : ts[j]? = some ((fun K => He.ga K x), ks) := by rfl) : Tb w K mg x ks := by
  refine ⟨W.glo i h, ?_⟩
  have e : ts.map (fun t => He.dicW K (t.1 K)) = ts.map fun t => some (He.keysIn w.params t.2) := congrArg (fun z : He.AlT => z.2) W.t
  have e2 : (ts.map fun t => He.dicW K (t.1 K))[j]? = (ts.map fun t => some (He.keysIn w.params t.2))[j]? := by rw [e]
  rw [List.getElem?_map, List.getElem?_map, h2] at e2
  exact Option.some.inj e2
end DL
set_option Elab.async false
set_option linter.all false
set_option maxRecDepth 100000
namespace DL
open PySem PySem.Spec PySem.W PyProof.Rows L2
end DL
set_option Elab.async false
set_option linter.all false
set_option maxRecDepth 100000
namespace DL
open PySem PySem.Spec PySem.W PyProof.Rows L2
section
variable {X : Cx} {w p : Bool} {e : Expr} {g ga : GE} {pos : Pos}
/-- sorted(xs) -/
def sortK (d : D) (k : List D → Prop) : Prop := match d with
  | .lst xs => ∃ ns, intsOf xs = some ns ∧ ∀ ns' : List Int, ns'.Perm ns → ns'.Pairwise (· ≤ ·) → k (ns'.map .int)
  | .tup xs => ∃ ns, intsOf xs = some ns ∧ ∀ ns' : List Int, ns'.Perm ns → ns'.Pairwise (· ≤ ·) → k (ns'.map .int)
  | _ => False
theorem sortK_lst {ns : List Int} {k : List D → Prop} : sortK (.lst (ns.map .int)) k = ∀ ns' : List Int, ns'.Perm ns → ns'.Pairwise (· ≤ ·) → k (ns'.map .int) := by
  show (∃ ms, intsOf (ns.map D.int) = some ms ∧ _) = _
  rw [intsOf_map]
  exact propext ⟨fun ⟨ms, e, q⟩ => by cases e; exact q, fun q => ⟨ns, rfl, q⟩⟩
theorem sortK_tup {ns : List Int} {k : List D → Prop} : sortK (.tup (ns.map .int)) k = ∀ ns' : List Int, ns'.Perm ns → ns'.Pairwise (· ≤ ·) → k (ns'.map .int) := by
  show (∃ ms, intsOf (ns.map D.int) = some ms ∧ _) = _
  rw [intsOf_map]
  exact propext ⟨fun ⟨ms, e, q⟩ => by cases e; exact q, fun q => ⟨ns, rfl, q⟩⟩
def gFsort (ga : GE) : GF := fun r M Q => ga r M fun d M1 => sortK d fun ds => Q (.lst ds) M1
end
end DL
set_option Elab.async false
set_option linter.all false
set_option maxRecDepth 100000
namespace DL
open PySem PySem.Spec PySem.W PyProof.Rows L2
section
variable {X : Cx} {p : Bool}
/-- a, b, c = x, y, z -/
def gPar3 (i j l : Nat) (gs : GA) : GS := fun D r M => gs r M fun ds M1 => match ds with
  | [d, e, u] => D.nx (((r.set i (.v d)).set j (.v e)).set l (.v u)) M1
  | _ => False
end
end DL
set_option Elab.async false
set_option linter.all false
set_option maxRecDepth 100000
namespace DL
open PySem PySem.Spec PySem.W PyProof.Rows L2
mutual
/-- whether a value of the written part bears d -/
def isB (K : PySem.W.Frag) : D → Value → Bool
  | .non, u => (match u with
    | .none => true
    | _ => false)
  | .bl b, u => (match u with
    | .bool c => decide (c = b)
    | _ => false)
  | .int i, u => (match u with
    | .int j _ => decide (j = i)
    | _ => false)
  | .str x, u => (match u with
    | .str y _ => decide (y = x)
    | _ => false)
  | .ref a, u => (match u with
    | .ref b => decide (b = a)
    | _ => false)
  | .tup ds, u => (match u with
    | .ref a => (match K.lookup a with
      | some ⟨.type c, none, .seq its _, _⟩ => decide (c = "tuple") && (decide (its.size ≤ 1000) && isBL K ds its.toList)
      | _ => false)
    | _ => false)
  | _, _ => false
def isBL (K : PySem.W.Frag) : List D → List Value → Bool
  | [], us => us.isEmpty
  | d :: ds, us => (match us with
    | u :: us => isB K d u && isBL K ds us
    | [] => false)
end
mutual
theorem isB_ok {K : PySem.W.Frag} : ∀ (d : D) (u : Value), isB K d u = true → ∃ v, RelV v u ∧ ∀ A H, Is K A H v d
  | .non, u, h => by
    unfold isB at h
    split at h
    · exact ⟨.non, rfl, fun _ _ => .non⟩
    · cases h
  | .bl b, u, h => by
    unfold isB at h
    split at h
    · have e := of_decide_eq_true h
      subst e
      exact ⟨.bl _, rfl, fun _ _ => .bl _⟩
    · cases h
  | .int i, u, h => by
    unfold isB at h
    split at h
    · have e := of_decide_eq_true h
      subst e
      exact ⟨.int _, ⟨_, rfl⟩, fun _ _ => .int _⟩
    · cases h
  | .str i, u, h => by
    unfold isB at h
    split at h
    · have e := of_decide_eq_true h
      subst e
      exact ⟨.str _, ⟨_, rfl⟩, fun _ _ => .str _⟩
    · cases h
  | .ref i, u, h => by
    unfold isB at h
    split at h
    · have e := of_decide_eq_true h
      subst e
      exact ⟨.ref _, rfl, fun _ _ => .ref _⟩
    · cases h
  | .tup ds, u, h => by
    unfold isB at h
    split at h
    · rename_i a
      split at h
      · rename_i c its n sl q
        obtain ⟨h1, h2⟩ := He.ba h
        obtain ⟨h2, h3⟩ := He.ba h2
        have e := of_decide_eq_true h1
        subst e
        obtain ⟨vs, r, l⟩ := isBL_ok ds its.toList h3
        exact ⟨.ref a, rfl, fun A H => .tup (.inr ⟨_, its, n, q, rfl, rfl, rfl, Nat.le_trans (of_decide_eq_true h2) (by rw [sizeLine_eq]; decide), r⟩) (l A H)⟩
      · cases h
    · cases h
  | .ty n, u, h => by cases h
  | .lst n, u, h => by cases h
  | .dic n, u, h => by cases h
theorem isBL_ok {K : PySem.W.Frag} : ∀ (ds : List D) (us : List Value), isBL K ds us = true → ∃ vs, Vals vs us ∧ ∀ A H, IsL K A H vs ds
  | [], us, h => by
    unfold isBL at h
    rw [List.isEmpty_iff] at h
    subst h
    exact ⟨[], .nil, fun _ _ => .nil⟩
  | d :: ds, us, h => by
    unfold isBL at h
    split at h
    · rename_i u us
      obtain ⟨h1, h2⟩ := He.ba h
      obtain ⟨v, r, l⟩ := isB_ok d u h1
      obtain ⟨vs, rs, ls⟩ := isBL_ok ds us h2
      exact ⟨v :: vs, .cons r rs, fun A H => .cons (l A H) (ls A H)⟩
    · cases h
end
/-- what is asked of the top besides -/
inductive Ck where
  | con (x : Str) (d : D)
  | tab (x : Str) (kvs : PySem.W.Frag → List (Str × D))
  /-- an own exception's class, as isinstance asks it -/
  | exq (x : Str)
  /-- isinstance of an instance of the class x -/
  | isq (x : Str) (c : PySem.W.Frag → D) (b : Bool)
  /-- defs that make lambdas: their tables of code objects -/
  | cods (xs : List Str)
def clsV : D → Value
  | .ref a => .ref a
  | .ty z => .type z
  | _ => .none
def kitD (K : PySem.W.Frag) (t : Value) : D → Option Bool
  | .tup ds => PySem.W.kitAny K t (ds.map clsV)
  | c => PySem.W.kitOne K t (clsV c)
def excB (K : PySem.W.Frag) (D : Addr) : Bool :=
  decide (PySem.W.findIn K (.ref D) "__getattribute__" = some (some (.builtin "BaseException.__getattribute__"))) && (decide (PySem.W.findIn K (.ref D) "__getattr__" = some none) && (decide (PySem.W.subIn K (.ref D) (.type "BaseException") = some true) && (PySem.W.hasDictIn K D &&
    (decide (PySem.W.findIn K (.ref D) "__class__" = some (some (.builtin "object.__class__"))) && (decide (PySem.W.specialIn K (.builtin "object.__class__") "__get__" = some (some (.builtin "getset_descriptor.__get__"))) && (decide (PySem.W.takesIn K (.builtin "object.__class__") = some true) && decide (PySem.W.mroIn K D (.type "object") = some true)))))))
/-- a def's code object, its table of code objects -/
def tC (K : PySem.W.Frag) (x : Str) : Addr := ((PySem.W.tabIn K x).map (·.1)).getD 0
def tP (K : PySem.W.Frag) (x : Str) : Addr := ((PySem.W.tabIn K x).map (·.2)).getD 0
def Ck.ok (K : PySem.W.Frag) : Ck → Bool
  | .con x d => (match PySem.W.nsIn K mainGlobals x with
    | some (some u) => isB K d u
    | _ => false)
  | .tab x kvs => (kvs K).all fun q => match PySem.W.nsIn K (He.ga K x) q.1 with
    | some (some u) => isB K q.2 u
    | _ => false
  | .exq x => excB K (He.ga K x)
  | .isq x c b => decide (kitD K (.ref (He.ga K x)) (c K) = some b)
  | .cods xs => xs.all (fun x => (PySem.W.tabIn K x).isSome && (K.lookup (tP K x)).isNone) && decide (xs.map (tP K)).Nodup
structure WorC (fa : List He.Fa) (fn : List He.DefD) (ts : List He.Tab) (cs : List Ck) (w : World) (K : PySem.W.Frag) (mg : Str → Option Value) : Prop extends WorT fa fn ts w K mg where
  x : cs.all (Ck.ok K) = true
section
variable {fa : List He.Fa} {fn : List He.DefD} {ts : List He.Tab} {cs : List Ck} {w : World} {K : PySem.W.Frag} {mg : Str → Option Value}
/-- a constant of the top -/
def Con (K : PySem.W.Frag) (mg : Str → Option Value) (x : Str) (d : D) : Prop := ∃ u v, mg x = some u ∧ RelV v u ∧ ∀ A H, Is K A H v d
theorem WorC.ck (W : WorC fa fn ts cs w K mg) (i : Nat) {c : Ck} (h : cs[i]? = some c) : c.ok K = true := List.all_eq_true.mp W.x c (List.mem_of_getElem? h)
theorem WorC.con (W : WorC fa fn ts cs w K mg) (i : Nat) {x : Str} {d : D} (h : cs[i]? = some (.con x d) := by rfl) : Con K mg x d := by
  have c : (match PySem.W.nsIn K mainGlobals x with
    | some (some u) => isB K d u
    | _ => false) = true := W.ck i h
  obtain ⟨hp, X, G⟩ := W.ex
  split at c
  · rename_i u e
    obtain ⟨v, r, l⟩ := isB_ok d u c
    have e2 : mg x = some u := (PySem.W.mg_of X G e)
    exact ⟨u, v, e2, r, l⟩
  · cases c
/-- a table of the top with its values -/
structure TbV (w : World) (K : PySem.W.Frag) (mg : Str → Option Value) (x : Str) (kvs : List (Str × D)) : Prop where
  t : Tb w K mg x (kvs.map (·.1))
  v : ∀ q ∈ kvs, ∃ u v, PySem.W.nsIn K (He.ga K x) q.1 = some (some u) ∧ RelV v u ∧ ∀ A H, Is K A H v q.2
theorem WorC.tbv (W : WorC fa fn ts cs w K mg) (i j l : Nat) {x : Str} {kvs : PySem.W.Frag → List (Str × D)} {ks : List Str} (h : fa[i]? = some (.glo x) := by rfl) (h2 : ts[j]? = some ((fun K => He.ga K x), ks) := by rfl) (h3 : cs[l]? = some (.tab x kvs) := by rfl) (h4 : (kvs K).map (·.1) = ks := by rfl) : TbV w K mg x (kvs K) := by
  refine ⟨by rw [h4]; exact W.tb i j h h2, fun q hq => ?_⟩
  have c : ((kvs K).all fun q => match PySem.W.nsIn K (He.ga K x) q.1 with
    | some (some u) => isB K q.2 u
    | _ => false) = true := W.ck l h3
  have c2 := List.all_eq_true.mp c q hq
  split at c2
  · rename_i u e
    obtain ⟨v, r, l⟩ := isB_ok _ u c2
    exact ⟨u, v, e, r, l⟩
  · cases c2
end
section
variable {X : Cx} {p w : Bool} {x : Str} {kvs : List (Str × D)} {a b o e f : Expr} {ga gb go ge gf : GE} {pos px apos cpos : Pos}
theorem lookup_mem {z : Str} {d : D} : ∀ {kvs : List (Str × D)}, kvs.lookup z = some d → (z, d) ∈ kvs
  | (k, e) :: r, h => by
    rw [List.lookup_cons] at h
    cases q : z == k with
    | true =>
      rw [q] at h
      cases h
      rw [eq_of_beq q]
      exact List.mem_cons_self ..
    | false =>
      rw [q] at h
      exact List.mem_cons_of_mem _ (lookup_mem h)
theorem TbV.got {w : World} {K : PySem.W.Frag} {mg : Str → Option Value} (T : TbV w K mg x kvs) {z : Str} {d : D} (h : kvs.lookup z = some d) : ∃ u v, PySem.W.nsIn K (He.ga K x) z = some (some u) ∧ RelV v u ∧ ∀ A H, Is K A H v d := T.v _ (lookup_mem h)
/-- T[k], T a table of the top -/
def gTabIx (kvs : List (Str × D)) (gb : GE) : GE := fun r M Q => gb r M fun e M1 => match e with
  | .str z => (match kvs.lookup z with
    | some d => Q d M1
    | none => False)
  | _ => False
theorem de_tabIx {w : Bool} (T : TbV X.w X.K X.mg x kvs) (hb : DE w p X b gb) (hs : PlainIx b := by intro _ _; rfl) (hg : Gl X x := by rfl) (hd : (x == ("__debug__" : Str)) = false := by decide) : DE true p X (.Subscript (.Name x px) b pos) (gTabIx kvs gb) := by
  obtain ⟨es, n, D⟩ := T.t.kd
  refine ⟨peI (pe_ix ix_kdict (pe_glob (v := .ref (He.ga X.K x)) hg T.t.g rfl hd) hb.run hs) fun σ H Q ⟨B, E, r, M, O, R, q⟩ => ?_, fun r M Q Q' h q => hb.mono _ _ _ _ (fun e M1 q1 => ?_) q⟩
  · refine hb.on R q fun e M2 u H2 O2 k2 R2 l2 i2 => ?_
    split at k2
    · rename_i z
      split at k2
      · rename_i d hd
        obtain ⟨u0, v0, e1, r0, l0⟩ := T.got hd
        rw [is1_str i2.one]
        exact ⟨_, _, v0, rfl, rfl, ⟨es, n, u0, D.at_, D.lit, e1, r0⟩, k2 v0 H2 O2 R2 l2 (l0 _ _)⟩
      · exact k2.elim
    · exact k2.elim
  · split at q1
    · split at q1
      · exact h _ _ q1
      · exact q1.elim
    · exact q1.elim
end
end DL
set_option Elab.async false
set_option linter.all false
set_option maxRecDepth 100000
namespace DL
open PySem PySem.Spec PySem.W PyProof.Rows L2
section
variable {X : Cx} {p w : Bool} {a b : Expr} {ga gb : GE} {pos : Pos}
def goMulL : GO := fun d e M Q => match d, e with
  | .lst xs, .int k => (-1000000 ≤ k ∧ k ≤ 1000000 ∧ xs.length * k.toNat ≤ 1000000) ∧ Q (.lst (repD k xs)) M
  | _, _ => False
theorem goMulL_lst {xs : List D} {k : Int} {M : Mem} {Q : D → Mem → Prop} : goMulL (.lst xs) (.int k) M Q = ((-1000000 ≤ k ∧ k ≤ 1000000 ∧ xs.length * k.toNat ≤ 1000000) ∧ Q (.lst (repD k xs)) M) := rfl
theorem de_mulL (ha : DE true p X a ga) (hb : DE true p X b gb) : DE true p X (.BinOp a .Mult b pos) (g2 goMulL ga gb) := by
  refine ⟨peI (pe_op op_rep ha.run hb.run) fun σ H Q ⟨B, E, r, M, O, R, q⟩ => ?_, fun r M Q Q' h q => ha.mono _ _ _ _ (fun d M1 q1 => hb.mono _ _ _ _ (fun e M2 q2 => ?_) q1) q⟩
  · refine ha.on R q fun d M1 v H1 O1 k1 R1 l1 i1 => ?_
    refine hb.on R1 k1 fun e M2 u H2 O2 k2 R2 l2 i2 => ?_
    have i1' : Is X.K (Av B M2 O2) H2 v d := Is.step l2.avs i1
    have i2' : Is X.K (Av B M2 O2) H2 u e := i2
    unfold goMulL at k2
    split at k2
    · rename_i xs k
      obtain ⟨⟨c1, c2, c3⟩, k2⟩ := k2
      cases i2'
      cases i1' with
      | @lst l vs _ h l3 =>
        refine ⟨l, k, vs, rfl, rfl, h.2, by omega, by omega, by rw [l3.length]; exact size_of c3, fun q n => ?_⟩
        exact fin_lst R2 (l3.rep k.toNat) (LE.go (l1.trans l2) k2) q n
    · exact k2.elim
  · unfold goMulL at q2 ⊢
    split at q2
    · exact ⟨q2.1, h _ _ q2.2⟩
    · exact q2.elim
end
end DL
set_option Elab.async false
set_option linter.all false
set_option maxRecDepth 100000
namespace DL
open PySem PySem.Spec PySem.W PyProof.Rows L2
def gExt (i : Nat) (ge : GE) : GS := fun D r M => match r.sl[i]? with
  | some (.o (.lst ds)) => ge r M fun d M1 => match d with
    | .lst es => ds.length + es.length ≤ sizeLine ∧ D.nx (r.set i (.o (.lst (ds ++ es)))) M1
    | _ => False
  | _ => False
def loopDM (gt : GG) (gb : GS) (l : Addr) (all : List D) : List D → DEnds → Fr → Mem → Prop
  | [], D, r, M => M l = some (.om (.lst all)) ∧ D.nx r M
  | d :: ds, D, r, M => M l = some (.om (.lst all)) ∧ gt d r M fun r' M' => gb { D with nx := loopDM gt gb l all ds D, ct := loopDM gt gb l all ds D, bk := D.nx } r' M'
def gForM (go : GE) (gt : GG) (gb : GS) : GS := fun D r M => go r M fun d M1 => mlK d M1 fun l ds => loopDM gt gb l ds ds D r M1
end DL
set_option Elab.async false
set_option linter.all false
set_option maxRecDepth 100000
namespace DL
open PySem PySem.Spec PySem.W PyProof.Rows L2
def lcDM (l : Addr) (all : List D) (gt : GG) (gtt : GT) (ge : GE) (r : DL.Fr) : List D → List D → Mem → (List D → Mem → Prop) → Prop
  | [], acc, M, Q => M l = some (.om (.lst all)) ∧ Q acc M
  | d :: ds, acc, M, Q => M l = some (.om (.lst all)) ∧ gt d r M fun r1 M1 => gtt r1 M1 fun b M2 => if b = true then ge r1 M2 fun x M3 => acc.length < sizeLine ∧ lcDM l all gt gtt ge r ds (acc ++ [x]) M3 Q else lcDM l all gt gtt ge r ds acc M2 Q
def gLcM (go : GE) (gt : GG) (gtt : GT) (ge : GE) (vs : List Nat) : GF := fun r M Q => noOwn r vs = true ∧ go r M fun d M1 => mlK d M1 fun l ds => lcDM l ds gt gtt ge (wipeF r vs) ds [] M1 fun acc M2 => Q (.lst acc) M2
end DL
set_option Elab.async false
set_option linter.all false
set_option maxRecDepth 100000
set_option maxHeartbeats 2000000
namespace L2
open PySem PySem.Spec PyProof.Rows
/-- a caught exception of the class cls, at a -/
def ExC (cls : Value) (a : Addr) : HO := .ext fun h => ∃ (oe : Obj) (vs : Array Value), h.get? a = some oe ∧ Zc cls none oe ∧ oe.data = .fields vs
theorem exC_ok {P : Program} {w : World} {H : Hp} {h : Heap} {a : Addr} {cls : Value} {oe : Obj} {vs : Array Value} (e : h.get? a = some oe) (z : Zc cls none oe) (d : oe.data = .fields vs) : ObjOk P w H h a (ExC cls a) :=
  ⟨⟨oe, vs, e, z, d⟩, ⟨oe, e⟩, fun _ _ ⟨o, v, q, r⟩ k => ⟨o, v, k o q, r⟩⟩
section
variable {X : Cx} {pins : List (Addr × Obj)} {σ : St} {H : Hp} {s : Shared}
/-- an object that nobody knew at the entry is tracked from here on -/
theorem Inv.track {a : Addr} {u : HO} {oe : Obj} {vs : Array Value} (I : Inv X pins σ H s) (he : s.heap.get? a = some oe) (hd : oe.data = .fields vs) (ha : H a = none) (nL : a ≠ X.env.locals) (n0 : X.s_0.heap.get? a = none)
    (np : ∀ p ∈ X.pn ++ pins, p.1 ≠ a) (new : ObjOk X.prog X.w (upd H a u) s.heap a u) : Inv X pins σ (upd H a u) s where
  ok := I.ok
  os := I.os
  bare := I.bare
  base := {
    keep := I.base.keep
    slot := I.base.slot
    free := fun b o e n x => by
      rw [upd_ne fun z => by rw [z, n0] at e; cases e]
      exact I.base.free b o e n x
    there := I.base.there
    tups := fun b xs q => by
      have q2 := I.base.tups b xs q
      rw [upd_ne (ne_of_none q2 ha)]; exact q2
    frzs := fun b o w q => by
      have q2 := I.base.frzs b o w q
      rw [upd_ne (ne_of_none q2 ha)]; exact q2
    tbls := fun b ps q => by
      obtain ⟨more, q2⟩ := I.base.tbls b ps q
      exact ⟨more, by rw [upd_ne (ne_of_none q2 ha)]; exact q2⟩ }
  loc := I.loc
  cell := I.cell
  free := by rw [upd_ne (Ne.symm nL)]; exact I.free
  freeC := fun x c e => by
    obtain ⟨v, o, ho, hc⟩ := I.cell x c e
    rw [upd_ne fun z => by rw [z, he] at ho; cases ho; rw [hd] at hc; cases hc]
    exact I.freeC x c e
  pin := fun p hp => by
    obtain ⟨h1, h2, h3⟩ := I.pin p hp
    exact ⟨h1, by rw [upd_ne (np p hp)]; exact h2, h3⟩
  hok := I.hok.laidN (fun _ _ q => q) ha new
  len := I.len
end
/-- as wAs, the exception kept -/
def wExc (K : PySem.W.Frag) (c : Value) (i : Nat) (ts : Addr → Value → Option Addr → TS) (Wout : WX) (D : Ends) : WX := fun cls d σ H =>
  ∃ b, PySem.W.exmOne K cls c = some b ∧ (b = true → d = none ∧ ∀ a, H a = none → ts a cls d { nx := fun σ' H' => D.nx (σ'.set i none) (upd H' a (ExC cls a)), rt := D.rt, bk := fun σ' H' => D.bk (σ'.set i none) (upd H' a (ExC cls a)), ct := fun σ' H' => D.ct (σ'.set i none) (upd H' a (ExC cls a)) } (σ.set i (some (.ref a))) H) ∧
    (b = false → Wout cls d σ H)
section
variable {X : Cx} {x n : Str} {c : Value} {i : Nat} {body suite : List Stmt} {b₀ : Stmt} {np pos pos' : Pos} {tb : WX → TS} {ts : Addr → Value → Option Addr → TS} {Wout : WX}
theorem ps_try_exc (hex : X.ex = []) (hs : X.stack = X.env :: X.outer) (hf : X.env.frame = some X.env.locals) (hN : X.N.Nodup) (hi : X.N[i]? = some n) (hln : X.env.kindOf n = some .local) (hc : Names X x c) (tk : Takes X Wout)
    (hb : ∀ (W : WX) (pn : List (Addr × Obj)) (xe : Value → Shared → Prop), Takes (X.tr pn xe) W → PassesOwn (model X.prog X.w) X.A X.env xe → PSs (X.tr pn xe) body (tb W))
    (hsu : ∀ (a : Addr) (oe : Obj) (cls : Value) (d : Option Addr) (pn : List (Addr × Obj)), Zc cls d oe → (∃ vs, oe.data = .fields vs) → PSs (X.suite a ((a, oe) :: pn)) (b₀ :: suite) (ts a cls d)) :
    PS X (.Try body [.ExceptHandler (some (.Name x np)) (some n) (b₀ :: suite) pos'] [] [] pos) (fun D σ H => tb (wExc X.K c i ts Wout D) D σ H) := by
  refine ⟨fun pins s σ H D I h => ?_⟩
  have ok := I.ok
  have hfr : X.A.frames = some (X.env :: X.outer) := by rw [ok.frames, hs]
  have hloc : Loc X.env.scope n := .inl hln
  refine wpAny_Try_except ?_
  refine wpAny_mono ((hb (wExc X.K c i ts Wout D) (X.pn ++ pins) (fun e s₁ => wpAny (model X.prog X.w) X.A (noteFrame e X.env) (fun _ s₂ => wpAny (model X.prog X.w) X.A (setFlight e none) (fun _ s₃ =>
    wpAny (model X.prog X.w) X.A (handleBy e X.env [.ExceptHandler (some (.Name x np)) (some n) (b₀ :: suite) pos']) (SP X pins D) X.xe s₃) X.xe s₂) X.xe s₁) (fun u s' xx => ?_) PassesOwn.looking).run [] s σ H D (I.toTry _) h) (fun f s1 hsp => ?_) (fun e s1 he => he)
  · -- the catch
    obtain ⟨a, B, sI, pins', σ', H', cls, d, rfl, J', nb, up, sky, na, os, ag, b, hb1, hyes, hno⟩ := xx
    have J : Inv X pins σ' H' sI := J'.ofTry ok
    have sky' : Sky B (X.env :: X.outer) a (Zc cls d) X.env.locals s'.heap := by rw [← hs]; exact sky
    show wpAny (model X.prog X.w) X.A (noteFrame (.ref a) X.env) _ _ _
    refine Sky.land Zc.steady hfr hf sky' fun h3 fl3 up3 => ?_
    have J3 : Inv X pins σ' H' { s' with heap := h3 } := J.landed nb fl3.1 (up.trans up3) os ag
    obtain ⟨oe3, vs3, he3, hz3, hd3⟩ := fl3.there
    have notFr : ∀ {h : Heap} {o : Obj} {vs : Array Value}, h.FunFrames B (X.env :: X.outer) → h.get? a = some o → o.data = .fields vs → a ∉ frs (X.env :: X.outer) := fun {h o vs} ff e dd hm => by
      obtain ⟨_, o', e', hnf⟩ := ff.mem hm
      rw [e] at e'; cases e'
      exact hnf _ dd
    have nfr := notFr fl3.2.2.1 he3 hd3
    have nL : a ≠ X.env.locals := fun z => nfr (List.mem_filterMap.mpr ⟨X.env, List.mem_cons_self, by rw [hf, z]⟩)
    have nF : a ∉ X.fs := fun hm => by
      obtain ⟨e, he, q⟩ := List.mem_filterMap.mp hm
      exact nfr (List.mem_filterMap.mpr ⟨e, List.mem_cons_of_mem _ he, q⟩)
    have S3 := J3.suite he3 hd3 na nL nF
    refine wpAny_handleBy_cons (codeAny_handlers_test ?_) (by intro q; cases q)
    have LT : PySem.W.Looks (model X.prog X.w) h3 (typeOf (.ref a)) cls := fun A Q E s k q => wpAny_typeOf_ref (k _ _ he3) (by rw [hz3.1]; exact q)
    have LM := PySem.W.exm_one (M := model X.prog X.w) (J3.kIn) LT hb1
    have test : ∀ {Q : Value → Shared → Prop} {E : Value → Shared → Prop}, Q c { s' with heap := h3 } → wpAny (model X.prog X.w) (X.A.mark (some (.ref a))) (eval (.Name x np) X.env) Q E { s' with heap := h3 } := fun {Q E} q => by
      obtain ⟨hg, hdbg, hm | ⟨hm, hv, hnn⟩⟩ := hc
      · exact ld_glob (X := X.suite a ((a, oe3) :: (X.pn ++ pins))) S3 hg hm q hdbg
      · exact ld_blt (X := X.suite a ((a, oe3) :: (X.pn ++ pins))) S3 hg hm hv q hnn hdbg
    refine test (LM.here ?_)
    cases b with
    | true =>
      obtain ⟨hd0, hyes⟩ := hyes rfl
      subst hd0
      refine codeAny_handlers_suite_as ?_
      refine HandSPX.lands_againZ fl3 fun h4 fl4 up4 => ?_
      have J4 : Inv X pins σ' H' { s' with heap := h4 } := J.landed nb fl4.1 ((up.trans up3).trans up4) os ag
      obtain ⟨oe4, vs4, he4, hz4, hd4⟩ := fl4.there
      have S4 := J4.suite he4 hd4 na nL nF
      refine store_ok (X := X.suite a ((a, oe4) :: (X.pn ++ pins))) (v := .ref a) S4 hN hi hloc rfl (fun s5 S5 => ?_) (.inr hln)
      refine wpAny_mono ((hsu a oe4 cls none (X.pn ++ pins) hz4 ⟨_, hd4⟩).run [] s5 _ H' _ S5 (hyes a na)) (fun f s6 hsp => ?_) (fun _ _ z => False.elim z)
      have npI : sI.heap.get? a = none := by
        cases eI : sI.heap.get? a with
        | none => rfl
        | some oI =>
          have := nb a oI eI (by rw [hs]; exact nfr)
          rw [fl3.2.1] at this
          cases this
      have n0 : X.s_0.heap.get? a = none := by
        cases e0 : X.s_0.heap.get? a with
        | none => rfl
        | some o0 =>
          obtain ⟨o1, e1⟩ := J.base.there a o0 e0 (by rw [hex]; exact List.not_mem_nil)
          rw [npI] at e1
          cases e1
      have np : ∀ p ∈ X.pn ++ pins, p.1 ≠ a := fun p hp z => by
        have := (J.pin p hp).1
        rw [z, npI] at this
        cases this
      have endT : ∀ {σ6 : St} {H6 : Hp} {Q : Shared → Prop}, Inv (X.suite a ((a, oe4) :: (X.pn ++ pins))) [] σ6 H6 s6 → (∀ s7, Inv X pins (σ6.set i none) (upd H6 a (ExC cls a)) s7 → Q s7) →
          wpAny (model X.prog X.w) X.A (do bindName X.env n .none; unbindBehindTheSuite X.env n pos') (fun _ s7 => Q s7) X.xe s6 := fun {σ6 H6 Q} S6 hq => by
        obtain ⟨p1, p2, p3, p4, p5⟩ := S6.pin (a, oe4) (by rw [List.append_nil]; exact List.mem_cons_self ..)
        exact gone_ok ((S6.unsuite ok).track p1 hd4 p2 p3 n0 np (exC_ok p1 hz4 hd4)) hN hi hln hq
      have end_ : ∀ {σ6 : St} {H6 : Hp} {Q : Shared → Prop}, Inv (X.suite a ((a, oe4) :: (X.pn ++ pins))) [] σ6 H6 s6 → (∀ s7, Inv X pins (σ6.set i none) H6 s7 → Q s7) →
          wpAny (model X.prog X.w) X.A (do bindName X.env n .none; unbindBehindTheSuite X.env n pos') (fun _ s7 => Q s7) X.xe s6 := fun {σ6 H6 Q} S6 hq => gone_ok (S6.unsuite ok) hN hi hln hq
      cases f with
      | next =>
        obtain ⟨σ6, H6, S6, q6⟩ := hsp
        exact endT S6 fun s7 J7 => ⟨_, _, J7, q6⟩
      | brk =>
        obtain ⟨σ6, H6, S6, q6⟩ := hsp
        exact endT S6 fun s7 J7 => ⟨_, _, J7, q6⟩
      | cont =>
        obtain ⟨σ6, H6, S6, q6⟩ := hsp
        exact endT S6 fun s7 J7 => ⟨_, _, J7, q6⟩
      | ret u =>
        obtain ⟨v6, σ6, H6, S6, r6, q6⟩ := hsp
        exact end_ S6 fun s7 J7 => ⟨_, _, _, J7, r6, q6⟩
    | false =>
      show wpAny _ X.A (handleBy (.ref a) X.env []) _ _ _
      refine wpAny_handleBy_nil ?_
      obtain ⟨k1, k2, k3, oe, vs, T, oT, ts', he, hz, hd, h1, hr⟩ := id fl3
      unfold PySem.passOn
      refine wpAny_bind (wpAny_field he hd h1 ?_)
      rw [if_neg (show ¬ ((Value.ref T == Value.none) = true) from by simp)]
      have fin : wpAny (model X.prog X.w) X.A (setFlight (.ref a) X.env.frame) (fun _ s4 => wpAny (model X.prog X.w) X.A (throw (.ref a) : Sem Flow) (SP X pins D) X.xe s4) X.xe { s' with heap := h3 } := by
        rw [hf]
        refine HandSPX.setFlight_upZ fl3 fun h4 hh4 up4 => wpAny_throw (tk _ _ ?_)
        exact ⟨a, B, sI, pins, σ', H', cls, d, rfl, J, nb, (up.trans up3).trans up4, .inr (.inr (by rw [hs]; exact hh4)), na, os, ag, hno rfl⟩
      first
        | exact wpAny_bind (wpAny_pure (wpAny_bind fin))
        | exact wpAny_bind fin
  · cases f with
    | next =>
      obtain ⟨σ', H', J', q⟩ := hsp
      exact wpAny_execs_nil ⟨σ', H', J'.ofTry ok, q⟩
    | brk =>
      obtain ⟨σ', H', J', q⟩ := hsp
      exact ⟨σ', H', J'.ofTry ok, q⟩
    | cont =>
      obtain ⟨σ', H', J', q⟩ := hsp
      exact ⟨σ', H', J'.ofTry ok, q⟩
    | ret u =>
      obtain ⟨v, σ', H', J', r, q⟩ := hsp
      exact ⟨v, σ', H', J'.ofTry ok, r, q⟩
end
end L2
set_option Elab.async false
set_option linter.all false
set_option maxRecDepth 100000
set_option maxHeartbeats 2000000
namespace DL
open PySem PySem.Spec PySem.W PyProof.Rows L2
section
variable {X : Cx} {B : Addr → Prop} {E : En} {σ : L2.St} {H H' : Hp} {r : DL.Fr} {M M' : Mem} {O O' : Own} {p w : Bool} {ks : List AK}
def nox : Addr → Mem → Prop := fun _ _ => False
def En.mute (E : En) : En := { E with X := nox, W := fun _ _ => False }
def Fr.mute (r : DL.Fr) : DL.Fr := { r with ex := nox }
theorem takes_false : Takes X (fun cls d _ H => xk (fun _ _ => False) cls d H) := fun u s' ⟨_, _, _, _, _, _, _, _, _, _, _, _, _, _, _, _, ⟨_, _, _, z⟩⟩ => z.elim
theorem Rep.mute (R : Rep X B E σ H r M O) (pn : List (Addr × Obj)) (xe : Value → Shared → Prop) : Rep (X.tr pn xe) B E.mute σ H (Fr.mute r) M O :=
  ⟨R.m, R.len, R.sl, R.ent, R.sub, fun _ _ _ _ _ _ z => z.elim, takes_false, rfl⟩
theorem Rep.unmute (R : Rep X B E σ H r M O) {pn : List (Addr × Obj)} {xe : Value → Shared → Prop} (R' : Rep (X.tr pn xe) B E.mute σ H' (Fr.mute r) M' O') : Rep X B E σ H' r M' O' :=
  ⟨R'.m, R'.len, R'.sl, R'.ent, R'.sub, R.exc, R.lk, R.xe⟩
abbrev GX := DL.Fr → Mem → (D → Mem → Prop) → (Addr → Mem → Prop) → Prop
/-- an expression that may raise: what is wanted of that is told apart -/
structure TrX (X : Cx) (e : Expr) (gx : GX) : Prop where
  run : ∀ (pn : List (Addr × Obj)) (xe : Value → Shared → Prop) (pins : List (Addr × Obj)) (s : Shared) (σ : L2.St) (H : Hp) (Q : VK) (Wc : Addr → Hp → Prop), Inv (X.tr pn xe) pins σ H s →
    (∀ (pins1 : List (Addr × Obj)) (H1 : Hp) (s1 : Shared) (u : Value) (s' : Shared), Inv (X.tr pn xe) pins1 σ H1 s1 → L2.CX X.prog X.w X.stack H1 s1 (xk Wc) u s' → xe u s') →
    ∀ B E r M O (Xc : Addr → Mem → Prop), Rep (X.tr pn xe) B E σ H r M O → gx r M (fun d M' => ∀ v H' O', Rep (X.tr pn xe) B E σ H' r M' O' → Is X.K (Av B M' O') H' v d → Q v H') Xc →
    (∀ C M' H' O', Rep (X.tr pn xe) B E σ H' r M' O' → Xc C M' → Wc C H') → wpAny (model X.prog X.w) X.A (eval e X.env) (EP (X.tr pn xe) pins σ Q) xe s
  mono : ∀ r M Q Q' Xc Xc', (∀ d M', Q d M' → Q' d M') → (∀ C M', Xc C M' → Xc' C M') → gx r M Q Xc → gx r M Q' Xc'
section
variable {e : Expr} {es : List Expr} {gs : GA} {n : Nat} {f : Addr} {fd : FuncData} {ps : List Str} {fs : FS} {x : Str} {pf pos : Pos}
def gxP (fs : FS) (gs : GA) : GX := fun r M Q Xc => gs r M fun ds M1 => fs ds M0 (fun d _ => Q d M1) fun C _ => Xc C M1
def gxM (fs : FS) (gs : GA) : GX := fun r M Q Xc => gs r M fun ds M1 => fs ds M1 Q Xc
end
end
end DL
set_option Elab.async false
set_option linter.all false
set_option maxRecDepth 100000
set_option maxHeartbeats 2000000
namespace DL
open PySem PySem.Spec PySem.W PyProof.Rows L2
section
variable {X : Cx} {B : Addr → Prop} {E : En} {σ : L2.St} {H H' : Hp} {r : DL.Fr} {M M' : Mem} {O O' : Own}
theorem Rep.setn (R : Rep X B E σ H r M O) (i : Nat) : Rep X B E (σ.set i none) H (r.set i .n) M O where
  m := R.m
  len := by
    show (σ.set i none).length = (r.sl.set i .n).length
    rw [List.length_set, List.length_set]; exact R.len
  sl := fun j s e => by
    have e : (r.sl.set i .n)[j]? = some s := e
    by_cases hj : i = j
    · subst hj
      have hi : i < r.sl.length := by
        obtain ⟨h1, _⟩ := List.getElem?_eq_some_iff.mp e
        simpa using h1
      rw [List.getElem?_set_self hi] at e
      cases e
      trivial
    · rw [List.getElem?_set_ne hj] at e
      rw [List.getElem?_set_ne hj]
      exact R.sl j s e
  ent := R.ent
  sub := R.sub
  exc := R.exc
  lk := R.lk
  xe := R.xe
theorem Rep.keep (R : Rep X B E σ H r M O) {a : Addr} {u : HO} (n : H a = none) : Rep X B E σ (upd H a u) r (mup M a (.ho u)) O := (New.of R n).toMem (m := .ho u) upd_same
/-- what is wanted of an exception: caught (and kept at a) or passed on -/
def caught (tb : List (Addr × Bool)) (jz jn : Nat) (D : DEnds) (r : DL.Fr) : Addr → Mem → Prop := fun C M' => ∃ b, (C, b) ∈ tb ∧ (b = true → ∀ a, M' a = none → D.nx ((r.set jz (.v (.ref a))).set jn .n) (mup M' a (.ho (ExC (.ref C) a)))) ∧ (b = false → r.ex C M')
def gTryE (jz jn : Nat) (tb : List (Addr × Bool)) (gx : GX) : GS := fun D r M => gx (Fr.mute r) M (fun _ M' => D.nx r M') (caught tb jz jn D r)
def gTryV (jy jz jn : Nat) (tb : List (Addr × Bool)) (gx : GX) : GS := fun D r M => gx (Fr.mute r) M (fun d M' => D.nx (r.set jy (.v d)) M') (caught tb jz jn D r)
theorem caught_mono {tb : List (Addr × Bool)} {jz jn : Nat} {D D' : DEnds} (l : D.Le D') : ∀ C M', caught tb jz jn D r C M' → caught tb jz jn D' r C M' := fun C M' ⟨b, h, h1, h2⟩ => ⟨b, h, fun z a n => l.nx _ _ (h1 z a n), h2⟩
/-- the body's expression, in the try -/
def teX (X : Cx) (W : WX) (gx : GX) : TE := fun σ H Q => ∃ B E r M O, Rep X B E σ H r M O ∧ gx (Fr.mute r) M (fun d M' => ∀ v H' O', Rep X B E σ H' r M' O' → Is X.K (Av B M' O') H' v d → Q v H') (fun C M' => ∀ H' O', Rep X B E σ H' r M' O' → W (.ref C) none σ H')
theorem pe_try {e : Expr} {gx : GX} (he : TrX X e gx) {W : WX} {pn : List (Addr × Obj)} {xe : Value → Shared → Prop} (tk : Takes (X.tr pn xe) W) : PE (X.tr pn xe) e (teX X W gx) := by
  refine ⟨fun pins s σ H Q I ⟨B, E, r, M, O, R, q⟩ => ?_⟩
  refine he.run pn xe pins s σ H Q (fun C H' => W (.ref C) none σ H') I (fun pins1 H1 s1 u s' I1 c => tk u s' (XE.of_call (X := X.tr pn xe) I1 (fun cls d H' z => ?_) c)) B E.mute (Fr.mute r) M O (fun C M' => ∀ H' O', Rep X B E σ H' r M' O' → W (.ref C) none σ H') (R.mute pn xe) ?_ fun C M' H' O' R' z => z H' O' (R.unmute R')
  · obtain ⟨C, rfl, rfl, w⟩ := z
    exact w
  · exact he.mono _ _ _ _ _ _ (fun d M' k v H' O' R' i => k v H' O' (R.unmute R') i) (fun _ _ z => z) q
def tsX (jz jn : Nat) : TS := fun D σ H => ∃ v, σ[jn]? = some (some v) ∧ D.nx (σ.set jz (some v)) H
theorem suite_end {jz jn : Nat} {tb : List (Addr × Bool)} {c : Addr} {D : Ends} (hne : jz ≠ jn) (hjn : jn < X.N.length) (hl : σ.length = X.N.length) (R : Rep X B E σ H r M O) (htb : ∀ C b, (C, b) ∈ tb → PySem.W.exmOne X.K (.ref C) (.ref c) = some b) :
    ∀ C M', caught tb jz jn (LS X B E D) r C M' → ∀ H' O', Rep X B E σ H' r M' O' → wExc X.K (.ref c) jn (fun _ _ _ => tsX jz jn) (fun cls d _ H => xk E.W cls d H) D (.ref C) none σ H' := by
  rintro C M' ⟨b, hb, h1, h2⟩ H' O' R'
  refine ⟨b, htb C b hb, fun hb' => ⟨rfl, fun a na => ?_⟩, fun hb' => ⟨C, rfl, rfl, R.exc C M' H' O' (R'.m.subB R.sub) R'.ent (by rw [← R.xe]; exact h2 hb')⟩⟩
  refine ⟨.ref a, List.getElem?_set_self (by rw [hl]; exact hjn), ?_⟩
  have e : (((σ.set jn (some (.ref a))).set jz (some (.ref a))).set jn none) = (σ.set jz (some (.ref a))).set jn none := by
    rw [List.set_comm _ _ hne, List.set_set, List.set_comm _ _ (Ne.symm hne)]
  show D.nx (((σ.set jn (some (.ref a))).set jz (some (.ref a))).set jn none) _
  rw [e]
  have nM : M' a = none := by
    cases em : M' a with
    | none => rfl
    | some mo => exact absurd na ((R'.m.mem a mo em).2.2.there)
  exact h1 hb' a nM _ _ O' (((R'.keep na).setv jz (.ref a)).setn jn)
section
variable {e : Expr} {gx : GX} {cx n : Str} {c : Addr} {jy jz jn : Nat} {tb : List (Addr × Bool)} {y z : Str} {py spos np pz pn' apos pos' pos : Pos}
theorem ds_tryE (jz jn : Nat) (hex : X.ex = []) (hst : X.stack = X.env :: X.outer) (hf : X.env.frame = some X.env.locals) (hN : X.N.Nodup) (hc : Names X cx (.ref c)) (htb : ∀ C b, (C, b) ∈ tb → PySem.W.exmOne X.K (.ref C) (.ref c) = some b) (he : TrX X e gx)
    (hi : X.N[jn]? = some n := by rfl) (hln : X.env.kindOf n = some .local := by rfl) (hz : X.N[jz]? = some z := by rfl) (hzl : X.env.scope.names.lookup z = some .local := by rfl) (hnl : X.env.scope.names.lookup n = some .local := by rfl)
    (hne : jz ≠ jn := by decide) (hn1 : (n == ("__debug__" : Str)) = false := by decide) (hn2 : (n == ("__classdict__" : Str)) = false := by decide)
    (hs1 : swapsWith e none spos.line X.env = pure false := by rfl) (hs2 : swapsWith (.Name n pn') (some (.Name z pz)) apos.line X.env = pure false := by rfl) :
    DS X (.Try [.Expr e spos] [.ExceptHandler (some (.Name cx np)) (some n) [.Assign [.Name z pz] (.Name n pn') apos] pos'] [] [] pos) (gTryE jz jn tb gx) := by
  refine ⟨⟨fun pins s σ H D I ⟨B, E, r, M, O, R, q⟩ => ?_⟩, fun D D' r M l q => he.mono _ _ _ _ _ _ (fun d M' k => l.nx _ _ k) (caught_mono l) q⟩
  refine (ps_try_exc (tb := fun W D σ H => teX X W gx σ H fun v H1 => D.nx σ H1) (ts := fun _ _ _ => tsX jz jn) (Wout := fun cls d _ H => xk E.W cls d H) hex hst hf hN hi hln hc R.lk (fun W pn xe tk _ => ?_) (fun a oe cls d pn _ _ => ?_)).run pins s σ H D I ?_
  · exact pss_one (ps_expr (X := X.tr pn xe) (pe_try he tk) hs1)
  · exact pss_one (ps_set (X := X.suite a ((a, oe) :: pn)) hN hz (.inl hzl) (pe_var (X := X.suite a ((a, oe) :: pn)) hi (.inl hnl) hn1 hn2) hs2 (.inr hzl))
  · exact ⟨B, E, r, M, O, R, he.mono _ _ _ _ _ _ (fun d M' k v H' O' R' i => k σ H' O' R') (fun C M' k => suite_end hne (List.getElem?_eq_some_iff.mp hi).1 I.len R htb C M' k) q⟩
end
end
end DL
set_option Elab.async false
set_option linter.all false
set_option maxRecDepth 100000
set_option maxHeartbeats 2000000
namespace DL
open PySem PySem.Spec PySem.W PyProof.Rows L2
theorem excB_ok {K : PySem.W.Frag} {D : Addr} (h : excB K D = true) : ExcC K D := by
  obtain ⟨h1, h⟩ := He.ba h
  obtain ⟨h2, h⟩ := He.ba h
  obtain ⟨h3, h⟩ := He.ba h
  obtain ⟨h4, h⟩ := He.ba h
  obtain ⟨h5, h⟩ := He.ba h
  obtain ⟨h6, h⟩ := He.ba h
  obtain ⟨h7, h8⟩ := He.ba h
  exact ⟨of_decide_eq_true h1, of_decide_eq_true h2, of_decide_eq_true h3, h4, of_decide_eq_true h5, of_decide_eq_true h6, of_decide_eq_true h7, of_decide_eq_true h8⟩
section
variable {X : Cx}
def rIsX (K : PySem.W.Frag) : List V → Hp → VK → Prop := fun xs H Q => ∃ (a C : Addr) (c : V) (b : Bool), xs = [.ref a, c] ∧ H a = some (ExC (.ref C) a) ∧ ExcC K C ∧
  ((∃ cv, (∀ u, RelV c u → u = cv) ∧ PySem.W.kitOne K (.ref C) cv = some b) ∨ (∃ tp vs cvs, c = .ref tp ∧ SqT K H tp vs ∧ (∀ us, Vals vs us → us = cvs) ∧ PySem.W.kitAny K (.ref C) cvs = some b)) ∧ Q (.bl b) H
theorem call_isX : CallR X (.builtin "isinstance") (rIsX X.K) := by
  intro pins s σ H xs us Q I r h
  obtain ⟨a, C, c, b, rfl, ha, hC, hc, q⟩ := h
  cases r with
  | cons rx rr =>
    cases rr with
    | cons rt rr =>
      cases rr
      cases rx
      obtain ⟨⟨oe, vs, hget, hz, hv⟩, -⟩ := I.hok a _ ha
      have J : PySem.W.InstAt s.heap a oe C none := by
        obtain ⟨oc, od, oda, osl⟩ := oe
        obtain ⟨h1, h2⟩ := hz
        dsimp only at h1 h2 hv
        subst h1 h2 hv
        exact ⟨hget, rfl, rfl, trivial⟩
      rcases hc with ⟨cv, hcv, e⟩ | ⟨tp, ws, cvs, rfl, hs, hcv, e⟩
      · have ec := hcv _ rt
        subst ec
        exact PySem.W.kia_one (PySem.W.handS_kitx_exc hC.hg hC.hk hC.hs hC.hd hC.ha hC.hn hC.ht hC.hm) I.kIn J e (fun z => nomatch z) fun tk => ⟨.bl b, H, I.kept (t' := tk) fun _ _ z => z, rfl, q⟩
      · cases rt
        obtain ⟨its, rv, ht, hz⟩ := I.tuple hs
        have ec := hcv _ rv
        subst ec
        obtain ⟨⟨oc, od, oda, osl⟩, ho, hcl, n, hda⟩ := id ht
        dsimp only at hcl hda
        subst hcl hda
        exact PySem.W.kia_tup (PySem.W.handS_kitx_exc hC.hg hC.hk hC.hs hC.hd hC.ha hC.hn hC.ht hC.hm) I.kIn J ho e (fun z => nomatch z) fun tk => ⟨.bl b, H, I.kept (t' := tk) fun _ _ z => z, rfl, q⟩
/-- isinstance of a caught exception: tb tells it of a class's instance -/
def gcIsX (tb : List (Addr × D × Bool)) : GC := fun ds M Q => match ds with
  | [.ref a, c] => ∃ C b, M a = some (.ho (ExC (.ref C) a)) ∧ (C, c, b) ∈ tb ∧ Q (.bl b) M
  | _ => False
def isCls : D → Bool
  | .ref _ => true
  | .ty _ => true
  | _ => false
theorem cls_val {K : PySem.W.Frag} {A : Addr → Prop} {H : Hp} {v : V} : ∀ {d : D}, isCls d = true → Is1 K A H v d → ∀ u, RelV v u → u = clsV d
  | .ref a, _, i, u, r => by
    have := is1_ref i
    subst this
    exact r
  | .ty z, _, i, u, r => by
    have i : Is K A H v (.ty z) := i
    cases i
    exact r
  | .non, h, _, _, _ => by cases h
  | .bl _, h, _, _, _ => by cases h
  | .int _, h, _, _, _ => by cases h
  | .str _, h, _, _, _ => by cases h
  | .tup _, h, _, _, _ => by cases h
  | .lst _, h, _, _, _ => by cases h
  | .dic _, h, _, _, _ => by cases h
theorem cls_vals {K : PySem.W.Frag} {A : Addr → Prop} {H : Hp} : ∀ {vs : List V} {ds : List D}, ds.all isCls = true → IsL K A H vs ds → ∀ us, Vals vs us → us = ds.map clsV
  | _, _, _, .nil, _, .nil => rfl
  | _, _, h, .cons i t, _, .cons r rs => by
    rw [List.all_cons, Bool.and_eq_true] at h
    rw [List.map_cons, cls_val h.1 i.one _ r, cls_vals h.2 t _ rs]
def okC : D → Bool
  | .tup ds => ds.all isCls
  | d => isCls d
theorem ca_isX {tb : List (Addr × D × Bool)} (ht : ∀ C c b, (C, c, b) ∈ tb → ExcC X.K C ∧ okC c = true ∧ kitD X.K (.ref C) c = some b) : CaD X (.builtin "isinstance") (gcIsX tb) where
  ex := ⟨_, call_isX, fun B E σ H r M O xs ds Q R ii q => by
    unfold gcIsX at q
    split at q
    · rename_i a c
      obtain ⟨v, u, rfl, i, j⟩ := isXL2 ii
      have := is1_ref i
      subst this
      obtain ⟨C, b, em, hm, q⟩ := q
      obtain ⟨h1, h2, h3⟩ := ht C c b hm
      obtain ⟨_, _, hH⟩ := R.m.mem a _ em
      refine ⟨a, C, u, b, rfl, hH, h1, ?_, fin_v R (.bl _) q⟩
      cases c
      case tup ds =>
        obtain ⟨tp, vs, e, h, l⟩ := j
        exact .inr ⟨tp, vs, _, e, h.sq, cls_vals h2 l, h3⟩
      case ref a' => exact .inl ⟨_, cls_val (d := .ref a') h2 j, h3⟩
      case ty z => exact .inl ⟨_, cls_val (d := .ty z) h2 j, h3⟩
      all_goals cases h2
    · exact q.elim⟩
  mono := fun d M Q Q' h q => by
    unfold gcIsX at q ⊢
    split at q
    · obtain ⟨C, b, h1, h2, q⟩ := q
      exact ⟨C, b, h1, h2, h _ _ q⟩
    · exact q.elim
end
end DL
set_option Elab.async false
set_option linter.all false
set_option maxRecDepth 100000
set_option maxHeartbeats 2000000
namespace DL
open PySem PySem.Spec PySem.W PyProof.Rows L2
section
variable {X : Cx} {p w : Bool} {a b : Expr} {ga gb : GE}
def rCountD (K : PySem.W.Frag) : V → List V → Hp → VK → Prop := fun x xs H Q => ∃ (a : Addr) (y : V) (d : PyData) (ds : List PyData), x = V.ref a ∧ xs = [y] ∧ Dp K H (V.ref a) (.list ds) ∧ Dp K H y d ∧
  SeqAt.shaped (.list ds) = true ∧ SeqAt.shaped d = true ∧ Q (.int (ds.countP fun z => PyData.eqv z d : Nat)) H
theorem mt_countD (hu : X.A.units + 65 < cLine) : MtR X "list.count" (rCountD X.K) := by
  intro pins s σ H x xs v us Q I rx rxs h
  obtain ⟨a, y, d, ds, rfl, rfl, hl, hy, sl, sd, q⟩ := h
  cases rx
  cases rxs with
  | cons ry rt =>
    rename_i uy ut
    cases rt
    obtain ⟨bs, r1⟩ := Dp.reads I d y uy hy ry
    have hxs : PyData.canLayAll0 ds = true := SeqAt.canLay_of_shaped sl
    have hroom : X.A.units + 1 + min (PyData.depthAll ds) d.depth < cLine := room_in_shaped sd hu
    cases hl with
    | lst hs ha =>
      obtain ⟨its, rv, ⟨⟨cls, dd, data, sls⟩, n, ho, hc, hdn, hdt⟩, hlen⟩ := I.list hs
      simp only at hc hdt
      subst hc hdt
      obtain ⟨as, h4⟩ := Dp.readsAll I ds _ its ha rv
      have hmap : its.map (SeqAt.readOf s.heap) = ds := SeqAt.readsAll_map ds its as hxs h4
      refine call_meets PySem.F.slot_list_count ⟨_, ho, rfl⟩ PySem.F.entry_list_count (PySem.F.args_list_count_2 _ _)
        (SeqAt.list_countAt a its.toArray n dd sls uy (fun u => PyData.eqv (SeqAt.readOf s.heap u) d)) ⟨ho, SeqAt.items_eqAt (vs := its.toArray) (show ReadsAll s.heap its.toArray.toList ds as from h4) r1 hxs (SeqAt.canLay_of_shaped sd) hroom, ?_⟩
      have e : its.toArray.toList.countP (fun u => PyData.eqv (SeqAt.readOf s.heap u) d) = ds.countP fun z => PyData.eqv z d := by
        rw [← hmap, List.countP_map]
        rfl
      rw [e]
      exact ⟨.int _, H, I.tok _, ⟨_, rfl⟩, q⟩
theorem pyL_count (e : D) : ∀ ds : List D, (D.pyL ds).countP (fun z => PyData.eqv z e.py) = ds.countP fun z => z.eqv e
  | [] => rfl
  | d :: r => by
    show (d.py :: D.pyL r).countP _ = _
    rw [List.countP_cons, List.countP_cons, pyL_count e r]
    rfl
def gCnt (ga gb : GE) : GE := fun r M Q => ga r M fun d M1 => match d with
  | .lst ds => gb r M1 fun e M2 => (D.ok (.lst ds) = true ∧ e.ok = true) ∧ Q (.int (ds.countP fun z => z.eqv e : Nat)) M2
  | _ => False
theorem de_count {nm : Str} {apos cpos : Pos} (hnm : nm = "count" := by rfl) (hu : X.A.units + 65 < cLine) (ha : DE true p X a ga) (hb : DE true p X b gb)
    (hbase : attributeBase a "count" X.env (eval a X.env) = eval a X.env := by rfl)
    (hfew : ((backTo cpos (starEach [b] X.env)).all (fun x => !x.1) && (backToKw cpos (keywordEach [] X.env)).all (fun x => x.1.isSome)
      && decide ([b].length + ([] : List Keyword).length + (if ([] : List Keyword).isEmpty then 0 else 1) < 30)) = true := by rfl)
    (hline : (apos.endLine == cpos.line) = true := by rfl) (hs : starEach [b] X.env = (false, eval b X.env) :: starEach [] X.env := by rfl) (hplain : (backTo cpos (starEach [] X.env)).any (·.1) = false := by rfl) :
    DE true p X (.Call (.Attribute a nm apos) [b] [] cpos) (gCnt ga gb) := by
  subst hnm
  refine ⟨peI (pe_bm PySem.F.plainAttrs_list PySem.F.slot_list_count PySem.F.type_list_count (mt_countD hu) ha.run (da_one hb hs).run hbase hfew hline hs hplain) fun σ H Q ⟨B, E, r, M, O, R, q⟩ => ?_, fun r M Q Q' h q => ha.mono _ _ _ _ (fun d M1 q1 => by
    split at q1
    · exact hb.mono _ _ _ _ (fun e M2 q2 => ⟨q2.1, h _ _ q2.2⟩) q1
    · exact q1) q⟩
  refine ha.on R q fun d M1 v H1 O1 k1 R1 l1 i1 => ?_
  have i1 : Is X.K (Av B M1 O1) H1 v d := i1
  split at k1
  · rename_i ds _
    cases i1 with
    | @lst l vs _ h l3 =>
      refine ⟨.inl ⟨rfl, _, SqL.of h.2⟩, ?_⟩
      refine (da_one hb hs).on R1 (k := fun zs M2 => ∃ e, zs = [e] ∧ (D.ok (.lst ds) = true ∧ e.ok = true) ∧ LE true p X B E σ r H M O Q (.int (ds.countP fun z => z.eqv e : Nat)) M2) (hb.mono _ _ _ _ (fun e M2 q2 => ⟨e, rfl, q2⟩) k1) fun zs M2 us H2 O2 k2 R2 l2 i2 => ?_
      obtain ⟨e, rfl, ⟨ok1, ok2⟩, k2⟩ := k2
      have jj := isXL_strong i2
      cases jj with
      | @cons u _ _ _ iu t =>
        cases t
        have iL : Is X.K (Av B M2 O2) H2 (.ref l) (.lst ds) := Is.step l2.avs (.lst h l3)
        refine ⟨l, u, e.py, D.pyL ds, rfl, rfl, iL.dp (ok_and ok1).1, iu.dp (ok_and ok2).1, (ok_and ok1).2, (ok_and ok2).2, ?_⟩
        rw [pyL_count]
        exact fin_v R2 (.int _) fun v3 H3 O3 R3 l4 i3 => k2 v3 H3 O3 R3 ((l1.trans l2).trans l4.weak) i3
  · exact k1.elim
end
end DL
set_option Elab.async false
set_option linter.all false
set_option maxRecDepth 100000
namespace DL
open PySem PySem.Spec PySem.W PyProof.Rows L2
section
variable {fa : List He.Fa} {fn : List He.DefD} {ts : List He.Tab} {cs : List Ck} {w : World} {K : PySem.W.Frag} {mg : Str → Option Value}
theorem Wor.exm (W : Wor fa fn K mg) (i : Nat) {x y : Str} {b : Bool} (h : fa[i]? = some (.exm x y b) := by rfl) : PySem.W.exmOne K (.ref (He.ga K x)) (.ref (He.ga K y)) = some b := He.exm_ok (W.c.fact i h)
theorem WorC.exq (W : WorC fa fn ts cs w K mg) (i : Nat) {x : Str} (h : cs[i]? = some (.exq x) := by rfl) : ExcC K (He.ga K x) := excB_ok (W.ck i h)
theorem WorC.isq (W : WorC fa fn ts cs w K mg) (i : Nat) {x : Str} {c : PySem.W.Frag → D} {b : Bool} (h : cs[i]? = some (.isq x c b) := by rfl) : kitD K (.ref (He.ga K x)) (c K) = some b := of_decide_eq_true (W.ck i h)
end
section
variable {K : PySem.W.Frag} {c x : Addr} {b : Bool} {tb : List (Addr × Bool)} {tbx : List (Addr × D × Bool)} {d : D}
def TbOk (K : PySem.W.Frag) (c : Addr) (tb : List (Addr × Bool)) : Prop := ∀ C b, (C, b) ∈ tb → PySem.W.exmOne K (.ref C) (.ref c) = some b
theorem tb_nil : TbOk K c [] := fun _ _ h => by cases h
theorem tb_cons (h : PySem.W.exmOne K (.ref x) (.ref c) = some b) (t : TbOk K c tb) : TbOk K c ((x, b) :: tb) := fun C b' h2 => by
  rcases List.mem_cons.mp h2 with e | e
  · cases e
    exact h
  · exact t C b' e
def TbxOk (K : PySem.W.Frag) (tb : List (Addr × D × Bool)) : Prop := ∀ C c b, (C, c, b) ∈ tb → ExcC K C ∧ okC c = true ∧ kitD K (.ref C) c = some b
theorem tbx_nil : TbxOk K [] := fun _ _ _ h => by cases h
theorem tbx_cons (h1 : ExcC K x) (h2 : okC d = true) (h3 : kitD K (.ref x) d = some b) (t : TbxOk K tbx) : TbxOk K ((x, d, b) :: tbx) := fun C c' b' h => by
  rcases List.mem_cons.mp h with e | e
  · cases e
    exact ⟨h1, h2, h3⟩
  · exact t C c' b' e
end
section
variable {X : Cx} {p : Bool} {e : Expr} {es : List Expr} {gs : GA} {pos pf : Pos} {n : Nat} {x : Str} {ps : List Str} {ks : List AK} {fs : FS}
theorem dg_cls (h : X.mg x = some (.ref (He.ga X.K x))) (hg : Gl X x := by rfl) (hd : (x == ("__debug__" : Str)) = false := by decide) : DE true p X (.Name x pos) (gC (.ref (He.ga X.K x))) :=
  de_glob (v := .ref (He.ga X.K x)) hg h rfl (fun _ _ => .ref _) hd
end
end DL
set_option Elab.async false
set_option linter.all false
set_option maxRecDepth 100000
namespace DL
open PySem PySem.Spec PySem.W PyProof.Rows L2
def stepL {α : Type} (c : Int) (xs : List α) : List α := if c = 1 then xs else xs.reverse
section
variable {X : Cx} {p w w1 w2 : Bool} {a b e : Expr} {ga gb : GE} {pos : Pos}
def stepK (d e : D) (M : Mem) (Q : D → Mem → Prop) : Prop := match d, e with
  | .lst xs, .int c => (c = 1 ∨ c = -1) ∧ Q (.lst (stepL c xs)) M
  | _, _ => False
theorem stepK_lst {xs : List D} {c : Int} {M : Mem} {Q : D → Mem → Prop} : stepK (.lst xs) (.int c) M Q = ((c = 1 ∨ c = -1) ∧ Q (.lst (stepL c xs)) M) := rfl
def gStep (ga gb : GE) : GE := fun r M Q => ga r M fun d M1 => gb r M1 fun e M2 => stepK d e M2 Q
end
end DL
set_option Elab.async false
set_option linter.all false
set_option maxRecDepth 100000
namespace DL
open PySem PySem.Spec PySem.W PyProof.Rows L2
end DL
set_option Elab.async false
set_option linter.all false
set_option maxRecDepth 100000
namespace DL
open PySem PySem.Spec PySem.W PyProof.Rows L2
section
variable {X : Cx} {p : Bool} {e : Expr} {gf : GF} {pos : Pos}
/-- x.append(a new list), that stands in memory -/
def gAppM (i : Nat) (gf : GF) : GS := fun D r M => match r.sl[i]? with
  | some (.o (.lst ds)) => gf r M fun m M1 => ds.length < sizeLine ∧ ∀ a, M1 a = none → D.nx (r.set i (.o (.lst (ds ++ [.ref a])))) (mup M1 a (.om m))
  | _ => False
end
end DL
set_option Elab.async false
set_option linter.all false
set_option maxRecDepth 100000
namespace DL
open PySem PySem.Spec PySem.W PyProof.Rows L2
section
variable {X : Cx} {w w1 w2 w3 p : Bool} {a b c e f o : Expr} {es : List Expr} {ga gb gc go ge gz : GE} {gf : GF} {B : Addr → Prop} {E : En} {σ : L2.St} {H : Hp} {r : Fr} {M : Mem} {O : Own} {pos pos' : Pos}
/-- a dict that is made as data -/
def FzD (Q : VK) (v : V) (H : Hp) : Prop := ∃ a kvs, v = .ref a ∧ H a = some (.dK kvs) ∧ ∀ o, Q v (upd H a (.frz o (.dK kvs)))
theorem pe_fz {t : TE} (h : PE X e t) : PE X e (fun σ H Q => t σ H (FzD Q)) :=
  ⟨fun pins s σ H Q I q => thn (h.run pins s σ H _ I q) fun u s1 ⟨x, H1, I1, r1, a, kvs, ex, e1, q1⟩ => by
    obtain ⟨o, I2⟩ := I1.lock e1 trivial
    exact ⟨x, _, I2, r1, q1 o⟩⟩
def pairsOf : List D → Option (List (Key × D))
  | [] => some []
  | .tup [k, v] :: r => match keyD k, pairsOf r with
    | some k, some l => some ((k, v) :: l)
    | _, _ => none
  | _ => none
def dictK (d : D) (k : List (Key × D) → Prop) : Prop := match d with
  | .lst xs => ∃ kds, pairsOf xs = some kds ∧ k (mergeD [] kds)
  | .tup xs => ∃ kds, pairsOf xs = some kds ∧ k (mergeD [] kds)
  | .dic kds => k kds
  | _ => False
theorem dictK_lst {xs : List D} {k : List (Key × D) → Prop} : dictK (.lst xs) k = ∃ kds, pairsOf xs = some kds ∧ k (mergeD [] kds) := rfl
theorem dictK_tup {xs : List D} {k : List (Key × D) → Prop} : dictK (.tup xs) k = ∃ kds, pairsOf xs = some kds ∧ k (mergeD [] kds) := rfl
theorem dictK_dic {kds : List (Key × D)} {k : List (Key × D) → Prop} : dictK (.dic kds) k = k kds := rfl
def gDictV (ga : GE) : GE := fun r M Q => ga r M fun d M1 => dictK d fun kds => Q (.dic kds) M1
def gFdict (ga : GE) : GF := fun r M Q => ga r M fun d M1 => dictK d fun kds => Q (.dic kds) M1
/-- {} -/
def gDic0 : GE := fun _ M Q => Q (.dic []) M
def gFdic0 : GF := fun _ M Q => Q (.dic []) M
def dicK (d : D) (k : List (Key × D) → Prop) : Prop := match d with
  | .dic kds => k kds
  | _ => False
theorem dicK_dic {kds : List (Key × D)} {k : List (Key × D) → Prop} : dicK (.dic kds) k = k kds := rfl
theorem dicK_mono {d : D} {k k' : List (Key × D) → Prop} (h : ∀ kds, k kds → k' kds) (q : dicK d k) : dicK d k' := by
  unfold dicK at q ⊢
  split at q
  · exact h _ q
  · exact q
def getK (kds : List (Key × D)) (e z : D) (k : D → Prop) : Prop := ∃ key, keyD e = some key ∧ k ((valD kds key).getD z)
/-- d.get(k), d.get(k, x) -/
def gDGet1 (go ge : GE) : GE := fun r M Q => go r M fun d M1 => dicK d fun kds => ge r M1 fun e M2 => getK kds e .non fun z => Q z M2
def gDGet2 (go ge gz : GE) : GE := fun r M Q => go r M fun d M1 => dicK d fun kds => ge r M1 fun e M2 => gz r M2 fun z M3 => getK kds e z fun z => Q z M3
theorem is_getD {K : PySem.W.Frag} {A : Addr → Prop} {H : Hp} {kvs : List (Key × V)} {kds : List (Key × D)} {k : Key} {v : V} {z : D} (l : IsK K A H kvs kds) (i : Is K A H v z) : Is K A H ((valV kvs k).getD v) ((valD kds k).getD z) := by
  obtain ⟨h1, h2⟩ := l.val (k := k)
  cases e : valD kds k with
  | none => rw [h2 e]; exact i
  | some d =>
    obtain ⟨x, e1, e2⟩ := h1 d e
    rw [e1]
    exact e2
theorem de_dget2 {nm : Str} {apos cpos : Pos} (hu : X.A.units + 1 < cLine) (ho : DE w1 p X o go) (he : DE true p X e ge) (hf : DE true p X f gz) (hnm : nm = "get" := by rfl) (hw : (w1 || p) = true := by first | rfl | exact Bool.or_true _)
    (m : M2 X o "get" apos e f cpos := by exact ⟨rfl, rfl, rfl, rfl⟩) : DE true p X (.Call (.Attribute o nm apos) [e, f] [] cpos) (gDGet2 go ge gz) := by
  subst hnm
  refine ⟨peI (pe_dget2 hu ho.run he.run hf.run m) fun σ H Q ⟨B, E, r, M, O, R, q⟩ => ?_, fun r M Q Q' h q => ho.mono _ _ _ _ (fun d M1 q1 => dicK_mono (fun kds q2 => he.mono _ _ _ _ (fun e M2 q3 => hf.mono _ _ _ _ (fun z M3 ⟨k, e1, q4⟩ => ⟨k, e1, h _ _ q4⟩) q3) q2) q1) q⟩
  refine ho.on R q fun d M1 v H1 O1 k1 R1 l1 i1 => ?_
  cases d with
  | dic kds =>
    obtain ⟨a, kvs, rfl, h1, lk⟩ := i1.one
    refine ⟨a, rfl, .inl ⟨kvs, h1⟩, ?_⟩
    refine he.on R1 k1 fun e M2 u H2 O2 k2 R2 l2 i2 => ?_
    refine hf.on R2 k2 fun z M3 y H3 O3 k3 R3 l3 i3 => ?_
    have i2' : Is X.K (Av B M3 O3) H3 u e := Is.step l3.avs (show Is X.K (Av B M2 O2) H2 u e from i2)
    have i3' : Is X.K (Av B M3 O3) H3 y z := i3
    obtain ⟨k, ek, k3⟩ := k3
    have ku := keyD_kV ek i2'
    subst ku
    obtain ⟨a', kvs', ea, h1', lk'⟩ := (IsX.next hw l3 (IsX.next hw l2 i1)).one
    cases ea
    exact ⟨valV kvs' k, .inl ⟨kvs', k, h1', rfl, rfl⟩, k3 _ H3 O3 R3 ((l1.trans l2).trans l3) (is_getD lk' i3')⟩
  | _ => exact k1.elim
def giKeys (ga : GE) : GI := fun r M Q => ga r M fun d M1 => dicK d fun kds => Q (kds.map fun kv => kD kv.1) M1
end
end DL
set_option Elab.async false
set_option linter.all false
set_option maxRecDepth 100000
namespace DL
open PySem PySem.Spec PySem.W PyProof.Rows L2
section
variable {X : Cx} {w w1 w2 w3 p : Bool} {a b c e f o : Expr} {es : List Expr} {ga gb gc go ge gv gz : GE} {gf : GF} {B : Addr → Prop} {E : En} {σ : L2.St} {H : Hp} {r : Fr} {M : Mem} {O : Own} {pos pos' : Pos}
/-- x[k] = v, x a slot's own dict -/
def gOPut (i : Nat) (ge gv : GE) : GS := fun D r M => match r.sl[i]? with
  | some (.o (.dic kds)) => gv r M fun v M1 => ge r M1 fun e M2 => ∃ k, keyD e = some k ∧ kds.length < sizeLine ∧ D.nx (r.set i (.o (.dic (putD kds k v)))) M2
  | _ => False
/-- x.pop(k, z), the value dropped -/
def dropD (kds : List (Key × D)) (k : Key) : List (Key × D) := kds.filter fun kv => decide (kv.1 ≠ k)
theorem IsK.drop {K : PySem.W.Frag} {A : Addr → Prop} {H : Hp} (k : Key) : ∀ {kvs : List (Key × V)} {kds : List (Key × D)}, IsK K A H kvs kds → IsK K A H (dropK kvs k) (dropD kds k)
  | _, _, .nil => .nil
  | _, _, .cons (k := j) h t => by
    unfold dropK dropD
    rw [List.filter_cons, List.filter_cons]
    by_cases e : j = k
    · rw [if_neg (by simp [e]), if_neg (by simp [e])]
      exact IsK.drop k t
    · rw [if_pos (by simp [e]), if_pos (by simp [e])]
      exact .cons h (IsK.drop k t)
def gOPop (i : Nat) (ge gz : GE) : GS := fun D r M => match r.sl[i]? with
  | some (.o (.dic kds)) => ge r M fun e M1 => gz r M1 fun z M2 => ∃ k, keyD e = some k ∧ D.nx (r.set i (.o (.dic (dropD kds k)))) M2
  | _ => False
def gPconsI (x : Int) (g : GE) (gs : GPs) : GPs := fun r M Q => g r M fun d M1 => gs r M1 fun kds M2 => Q ((.inl x, d) :: kds) M2
def gDispV (gp : GPs) : GE := fun r M Q => gp r M fun kds M1 => Q (.dic (mergeD [] kds)) M1
theorem de_dispV {keys : List (Option Expr)} {gp : GPs} (h : DPs p X pos keys es gp) (hall : keys.all (·.isSome) = true := by rfl) (hl : keys.length = es.length := by rfl) (h0 : keys ≠ [] := by simp) (h15 : keys.length ≤ 15 := by decide) : DE true p X (.Dict keys es pos) (gDispV gp) := by
  obtain ⟨trs, h1, h2⟩ := h.ex
  refine ⟨peI (pe_fz (pe_disp h1 hall hl h0 h15)) fun σ H Q ⟨B, E, r, M, O, R, q⟩ => ?_, fun r M Q Q' hh q => h.mono r M _ _ (fun kds M1 q1 => hh _ _ q1) q⟩
  intro a n
  have N := New.of R n (o := .dK [])
  refine h2 (Bp B a) E σ (upd H a (.dK [])) r M O _ _ N.rep (h.len _ _ _ q) fun kds M1 H1 O1 kvs k1 R1 l1 i1 => ?_
  have eb : H1 a = some (.dK []) := (l1.2 a _ upd_same fun z => N.nav (.inr z)).1
  have N1 : New X B E σ H1 r M1 O1 a := N.next (l := l1) R1 (by rw [upd_same]; simp)
  refine ⟨eb, kvs, rfl, by rw [i1.len, k1.1]; exact h15, a, _, rfl, upd_same, fun ob => ?_⟩
  rw [upd_upd]
  have N2 := N1.put (u := .frz ob (.dK (mergeK [] kvs))) (by rw [eb]; simp)
  refine k1.2 _ _ O1 N2.any (((Rl.of_same (same_upd n)).trans l1).put n) (IsX.of (.dic ⟨N2.nav, ob, upd_same⟩ (IsK.merge (i1.step fun b u e nb => ?_) .nil)))
  have nb' : b ≠ a := fun z => nb (by rw [av_bp]; exact .inr z)
  exact ⟨by rw [upd_ne nb']; exact e, fun z => nb (by rw [av_bp]; exact .inl z)⟩
end
end DL
set_option Elab.async false
set_option linter.all false
set_option maxRecDepth 100000
namespace DL
open PySem PySem.Spec PySem.W PyProof.Rows L2
section
variable {X : Cx} {w p : Bool} {a b e : Expr} {gs : GA} {B : Addr → Prop} {E : En} {σ : L2.St} {H : Hp} {r : Fr} {M : Mem} {O : Own} {pos : Pos}
def gOIns (i : Nat) (gs : GA) : GS := fun D r M => match r.sl[i]? with
  | some (.o (.lst ds)) => gs r M fun zs M1 => ins2K zs ds fun ds' => D.nx (r.set i (.o (.lst ds'))) M1
  | _ => False
end
end DL
set_option Elab.async false
set_option linter.all false
set_option maxRecDepth 100000
set_option maxHeartbeats 2000000
namespace DL
open PySem PySem.Spec PySem.W PyProof.Rows L2 LamX
abbrev LmT := Mem → (D → Mem → Prop) → (Addr → Mem → Prop) → Prop
abbrev LSp := XK → Hp → VK → Prop
def MonoT (tl : LmT) : Prop := ∀ M Q Q' X X', (∀ d M', Q d M' → Q' d M') → (∀ C M', X C M' → X' C M') → tl M Q X → tl M Q' X'
/-- what a lambda promises, wherever it is called -/
def LamPr (K : PySem.W.Frag) (U0 : Addr → Prop) (H0 : Hp) (tl : LmT) (sp : LSp) : Prop := ∀ (B : Addr → Prop) (M : Mem) (O : Own) (H : Hp) (Qd : D → Mem → Prop) (Xd : Addr → Mem → Prop) (Q : VK) (E : XK), MemOk K B H M O → Flds O → Step U0 H0 (Av B M O) H → tl M Qd Xd →
  (∀ d M' v H' O', Qd d M' → MemOk K B H' M' O' → Flds O' → Step (Mut M O) H (Mut M' O') H' → Is K (Av B M' O') H' v d → Q v H') →
  (∀ C M' H' O', Xd C M' → MemOk K B H' M' O' → Flds O' → Step (Mut M O) H (Mut M' O') H' → E (.ref C) none H') → sp E H Q
/-- f, called within X -/
def LamAct (X : Cx) (f : Addr) (sp : LSp) : Prop := ∀ (pn : List (Addr × Obj)) (xe : Value → Shared → Prop) (pins : List (Addr × Obj)) (s : Shared) (σ : L2.St) (H : Hp) (Q : VK) (E : XK), Inv (X.tr pn xe) pins σ H s → sp E H Q →
  (∀ u s', L2.CX X.prog X.w X.stack H s E u s' → xe u s') → PySem.W.FnAt f s.heap ∧ wpAny (model X.prog X.w) X.A (call (.ref f) []) (EP (X.tr pn xe) pins σ Q) xe s
section
variable {X : Cx} {B : Addr → Prop} {E : En} {σ : L2.St} {H H' : Hp} {r : DL.Fr} {M M' : Mem} {O O' : Own}
theorem MemOk.below (m : MemOk X.K B H M O) : MemOk X.K (Bs B O) H M (DL.drops O) := by
  refine ⟨fun b mo e => ?_, fun b w e => ?_, fun b z => ?_⟩
  · obtain ⟨h1, h2, h3⟩ := m.mem b mo e
    refine ⟨fun z => z.elim h1 fun ⟨i, hi⟩ => (by rw [hi] at h2; cases h2), by unfold DL.drops; rw [h2], ?_⟩
    rw [av_bs]
    exact h3.stepS (Step.refl _ _) (fun _ e => e) fun l f q => ⟨by unfold DL.drops; rw [q], fun _ e => e⟩
  · unfold DL.drops at e
    split at e
    · rename_i q
      cases e
      obtain ⟨h1, h2⟩ := m.own b _ q
      exact ⟨fun z => z.elim h1 fun ⟨i, hi⟩ => (by rw [hi] at q; cases q), h2⟩
    · cases e
  · rcases z with z | ⟨i, hi⟩
    · exact m.btr b z
    · exact (m.own b _ hi).2
/-- the lambda's promise at the callee's state -/
theorem act_pre {lm : Lm} {sp : LSp} (hp : LamPr X.K lm.U lm.H lm.tl sp) (R : Rep X B E σ H r M O) {i : Nat} (hs : r.sl[i]? = some (.f lm)) {Qd : D → Mem → Prop} {Xd : Addr → Mem → Prop} {Q : VK} {Ex : XK} (q : lm.tl M Qd Xd)
    (h1 : ∀ d M' v H' O', Qd d M' → Rep X B E σ H' r M' O' → Rl false M O H M' O' H' → Is X.K (Av B M' O') H' v d → Q v H') (h2 : ∀ C M' H' O', Xd C M' → Rep X B E σ H' r M' O' → Ex (.ref C) none H') : sp Ex H Q := by
  obtain ⟨x, e1, e2, e3⟩ := R.slot hs
  refine hp (Bs B O) M (drops O) H Qd Xd Q Ex R.m.below (drops_flds O) (by rw [av_bs]; exact e3) q (fun d M' v H' O' k m _ s i => ?_) fun C M' H' O' k m _ s => ?_
  · obtain ⟨R', s', e'⟩ := R.called m s
    refine h1 d M' v H' _ k R' ⟨fun z => (nomatch z), s'⟩ ?_
    rw [e']
    exact i
  · obtain ⟨R', s', e'⟩ := R.called m s
    exact h2 C M' H' _ k R'
section
variable {a : Str} {p1 p2 : Pos} {lm : Lm} {sp : LSp}
/-- x(), x the lambda that was handed in -/
def gAct (i : Nat) (lm : Lm) : GE := fun r M Q => r.sl[i]? = some (.f lm) ∧ lm.tl M Q r.ex
def gxAct (i : Nat) (lm : Lm) : GX := fun r M Q Xc => r.sl[i]? = some (.f lm) ∧ lm.tl M Q Xc
theorem tx_act (i : Nat) (hm : MonoT lm.tl) (hp : LamPr X.K lm.U lm.H lm.tl sp) (act : LamAct X lm.f sp) (hN : X.N[i]? = some a := by rfl) (hv : Vis X.env.scope a := by first | exact Or.inl rfl | exact Or.inr (Or.inl rfl) | exact Or.inr (Or.inr rfl)) (hd : (a == ("__debug__" : Str)) = false := by decide)
    (hcd : (a == ("__classdict__" : Str)) = false := by decide) : TrX X (.Call (.Name a p1) [] [] p2) (gxAct i lm) := by
  refine ⟨fun pn xe pins s σ H Q Wc I lk B E r M O Xc R ⟨hs, q⟩ hW => ?_, fun r M Q Q' Xc Xc' h hx q => ⟨q.1, hm _ _ _ _ _ h hx q.2⟩⟩
  obtain ⟨x, e1, e2, _⟩ := R.slot hs
  subst e2
  refine wpAny_Call_Name_kw (thn ((pe_var (X := X.tr pn xe) (pos := p1) hN hv hd hcd).run pins s σ H (fun v H1 => v = .ref lm.f ∧ H1 = H) I ⟨_, e1, rfl, rfl⟩) fun u s1 ⟨v, H1, I1, r1, ev, eH⟩ => ?_)
  subst ev
  rw [eH] at I1
  obtain rfl : u = Value.ref lm.f := r1
  obtain ⟨h1, h2⟩ := act pn xe pins s1 σ H Q (xk Wc) I1 (act_pre (X := X.tr pn xe) hp R hs q (fun d M' v H' O' k R' l i => k v H' O' R' i) fun C M' H' O' k R' => ⟨C, rfl, rfl, hW C M' H' O' R' k⟩) fun u s' c => lk pins H s1 u s' I1 c
  exact PySem.W.callWith_F0 h1 h2
end
end
end DL
set_option Elab.async false
set_option linter.all false
set_option maxRecDepth 100000
set_option maxHeartbeats 2000000
namespace DL
open PySem PySem.Spec PySem.W PyProof.Rows L2 LamX
section
variable {X : Cx} {pins : List (Addr × Obj)} {B : Addr → Prop} {E : En} {σ : L2.St} {H H' : Hp} {r : DL.Fr} {M M' : Mem} {O O' : Own} {s : Shared}
/-- what the table tells behind the making -/
structure Tabled (H : Hp) (P : Addr) (q : Str) (ps : Array Value) (c' : Addr) (H1 : Hp) : Prop where
  co : H1 c' = some (CodeO c' q)
  how : (H1 = H ∧ ∃ pos, codeAmong pos ps.toList = some (.ref c')) ∨ (H c' = none ∧ ∃ more : Array Value, H1 = upd (upd H P (.tbl (ps ++ more))) c' (CodeO c' q) ∧ TriplesOk (ps ++ more).toList ∧
    ∀ pos cv, codeAmong pos (ps ++ more).toList = some cv → codeAmong pos ps.toList = some cv ∨ cv = .ref c')
/-- the function object of a lambda -/
abbrev lamO (X : Cx) (params : Arguments) (body : Expr) (scope : Scope) (pm : Value) (c' : Addr) (ctv : Value) : Obj := PySem.W.kla_obj "<lambda>" (X.env.qual ++ "<lambda>") params body scope (cloFrom X.env.cells scope.names []) pm c' ctv
theorem lam_new {ps : Array Value} {c P : Addr} {params : Arguments} {body : Expr} {scope : Scope} {pos : Pos} {Ex : Value → Shared → Prop} {Q : Value → Shared → Prop} (I : Inv X pins σ H s) (TB : TabB X.base X.mg c P) (hcode : X.env.code = .ref c) (hP : H P = some (.tbl ps)) (ht : TriplesOk ps.toList)
    (old : ∀ pos cv, codeAmong pos ps.toList = some cv → ∃ c, cv = .ref c ∧ H c = some (CodeO c (X.env.qual ++ "<lambda>"))) (hdef : defaultsOf params X.env = ([], [])) (hfree : ∀ y ∈ scope.names, y.2 = .free → ∃ c, X.env.cells.lookup y.1 = some c)
    (h : ∀ (f c' : Addr) (pm ctv : Value) (H1 : Hp) (s' : Shared), Inv X ((f, lamO X params body scope pm c' ctv) :: pins) σ H1 s' → f ∉ frs X.stack → Tabled H P (X.env.qual ++ "<lambda>") ps c' H1 → Q (.ref f) s') :
    wpAny (model X.prog X.w) X.A (eval (.Lambda params body scope pos) X.env) Q Ex s := by
  refine PySem.W.kla_eval hdef ?_
  have hb : s.heap.BuiltinsAt X.mg P := TB.bm.keeps I.bk
  have hT : s.heap.get? P = some { cls := .none, data := .fields ps } := I.hok P _ hP
  have away : ∀ f, s.heap.objs.size ≤ f → f ∉ frs X.stack := fun f hf z => by
    rcases List.mem_cons.mp (I.stkSub _ z) with z | z
    · have := I.lt
      rw [← z] at this
      exact absurd hf (Nat.not_le.mpr this)
    · exact I.nofs hf z
  have nocell : ∀ (pm : Value) (c' : Addr) (ctv : Value) (v : Option Value), (lamO X params body scope pm c' ctv).data ≠ .cell v := fun _ _ _ _ z => nomatch z
  cases hc : codeAmong pos ps.toList with
  | some cv =>
    obtain ⟨c', rfl, hco⟩ := old pos cv hc
    refine PySem.W.kla_makeFunctionHit (mg := X.mg) (c := c) (P := P) (ps := ps) (closure_ok hfree) I.ok.glob (I.mod.glob.keeps I.bk) hcode (TB.code.keeps I.bk) hT ht hc hb fun ctv h' tk kp hsz => ?_
    exact h h'.objs.size c' _ ctv H _ (ClX.pin_new (t' := tk) I (fun b o e => Heap.get?_push_of_some _ (kp b o e)) hsz (Heap.get?_push_size _ rfl) (nocell _ _ _)) (away _ hsz) ⟨hco, .inl ⟨rfl, pos, hc⟩⟩
  | none =>
    refine PySem.W.kla_makeFunction (mg := X.mg) (c := c) (P := P) (ps := ps) (closure_ok hfree) I.ok.glob (I.mod.glob.keeps I.bk) hcode (TB.code.keeps I.bk) hT ht hc TB.gP hb fun c' ctv h' tk kx hge hlt hrec htb => ?_
    obtain ⟨c2, oc, vs, t, e2, hoc, hd, hv⟩ := hrec
    cases e2
    have nC : H c' = none := I.hok.fresh hge
    have hsz : s.heap.objs.size ≤ h'.objs.size := Nat.le_trans hge (Nat.le_of_lt hlt)
    have I1 := inv_table (q := X.env.qual ++ "<lambda>") (t' := tk) (more := #[rawInt pos.line, rawInt pos.col, .ref c']) (h' := h'.push (lamO X params body scope ((X.mg "__name__").getD .none) c' ctv)) I hP
      (fun b o nb e => Heap.get?_push_of_some _ (kx b o nb e)) (Heap.get?_push_of_some _ htb) hge ⟨oc, vs, t, Heap.get?_push_of_some _ hoc, hd, hv⟩
    have I2 : Inv X ((h'.objs.size, lamO X params body scope ((X.mg "__name__").getD .none) c' ctv) :: pins) σ (upd (upd H P (.tbl (ps ++ #[rawInt pos.line, rawInt pos.col, .ref c']))) c' (CodeO c' (X.env.qual ++ "<lambda>"))) { s with heap := h'.push (lamO X params body scope ((X.mg "__name__").getD .none) c' ctv), toks := tk } := by
      refine I1.pins_of fun p hp => ?_
      rcases List.mem_cons.mp hp with e | e
      · subst e
        refine ⟨Heap.get?_push_size _ rfl, ?_, Nat.ne_of_gt (Nat.lt_of_lt_of_le I.lt hsz), I.nofs hsz, nocell _ _ _⟩
        show upd (upd H P _) c' _ h'.objs.size = none
        rw [upd_ne (Nat.ne_of_gt hlt), upd_ne (Nat.ne_of_gt (Nat.lt_of_lt_of_le (Heap.lt_size hT) hsz))]
        exact I.hok.fresh hsz
      · exact I1.pin p (List.mem_append_right _ e)
    refine h h'.objs.size c' _ ctv _ _ I2 (away _ hsz) ⟨upd_same, .inr ⟨nC, #[rawInt pos.line, rawInt pos.col, .ref c'], rfl, ?_, fun p' cv hcv => ?_⟩⟩
    · rw [show (ps ++ #[rawInt pos.line, rawInt pos.col, .ref c']).toList = ps.toList ++ [rawInt pos.line, rawInt pos.col, .ref c'] by simp]
      exact PySem.TriplesOk_snoc _ _ _ _ ht
    · rw [show (ps ++ #[rawInt pos.line, rawInt pos.col, .ref c']).toList = ps.toList ++ [rawInt pos.line, rawInt pos.col, .ref c'] by simp] at hcv
      exact among_app _ ht hcv
/-- the memory tells of the table as before -/
theorem Rep.tabled (R : Rep X B E σ H r M O) {P c' : Addr} {q : Str} {ps : Array Value} {H1 : Hp} (em : M P = some (.tab q)) (hP : H P = some (.tbl ps)) (ht : TriplesOk ps.toList) (old : ∀ pos cv, codeAmong pos ps.toList = some cv → ∃ c, cv = .ref c ∧ H c = some (CodeO c q) ∧ ¬ Av B M O c) (t : Tabled H P q ps c' H1) :
    Rep X B E σ H1 r M O ∧ Step (Mut M O) H (Mut M O) H1 ∧ ¬ Av B M O c' := by
  rcases t.how with ⟨e, pos, hc⟩ | ⟨nC, more, e, ht', am⟩
  · obtain ⟨c2, e2, _, n⟩ := old pos _ hc
    cases e2
    rw [e]
    exact ⟨R, Step.refl _ _, n⟩
  · have nav : ¬ Av B M O c' := R.m.fresh nC
    have nPc : P ≠ c' := fun z => by rw [z] at hP; rw [nC] at hP; cases hP
    have muP : Mut M O P := .inl (by rw [em]; simp)
    have at_ : ∀ b o, b ≠ P → H b = some o → H1 b = some o := fun b o nb eb => by
      rw [e, upd_ne (ne_of_none eb nC), upd_ne nb]
      exact eb
    have atP : H1 P = some (.tbl (ps ++ more)) := by rw [e, upd_ne nPc, upd_same]
    have sU : Step (Mut M O) H (Mut M O) H1 := fun b o eb nb => ⟨at_ b o (fun z => nb (by rw [z]; exact muP)) eb, nb⟩
    have sA : Step (Av B M O) H (Av B M O) H1 := fun b o eb nb => ⟨at_ b o (fun z => nb (by rw [z]; exact .inr muP)) eb, nb⟩
    have any : ∀ b, H b ≠ none → H1 b ≠ none := fun b nb => by
      by_cases hb : b = P
      · rw [hb, atP]; simp
      · cases eb : H b with
        | none => exact absurd eb nb
        | some o => rw [at_ b o hb eb]; simp
    have oP := (R.m.mem P _ em).2.1
    have keepO : ∀ l w, O l = some w → ∀ o, H l = some o → H1 l = some o := fun l w q o eo => at_ l o (fun z => by rw [z, oP] at q; cases q) eo
    refine ⟨⟨⟨fun b mo eb => ?_, fun b w eb => ⟨(R.m.own b w eb).1, any b (R.m.own b w eb).2⟩, fun b z => any b (R.m.btr b z)⟩, R.len, fun i x ex => (R.sl i x ex).stepS sA sU fun l q => ⟨q, keepO l _ q⟩, R.ent.trans sU, R.sub, R.exc, R.lk, R.xe⟩, sU, nav⟩
    obtain ⟨h1, h2, h3⟩ := R.m.mem b mo eb
    refine ⟨h1, h2, ?_⟩
    by_cases hb : b = P
    · rw [hb] at eb ⊢
      rw [em] at eb
      cases eb
      refine ⟨_, atP, ht', fun pos cv hcv => ?_⟩
      rcases am pos cv hcv with z | z
      · obtain ⟨c2, q1, q2, q3⟩ := old pos cv z
        exact ⟨c2, q1, (sA c2 _ q2 q3).1, q3⟩
      · exact ⟨c', z, t.co, nav⟩
    · exact h3.stepS sA (fun o eo => at_ b o hb eo) fun l f q => ⟨q, keepO l _ q⟩
end
/-- the slots that it may read -/
def lam1 : Sl → Sl
  | .v d => .v d
  | _ => .n
def lamS : List Sl → List Sl
  | [] => []
  | x :: r => lam1 x :: lamS r
theorem lamS_map : ∀ sl : List Sl, lamS sl = sl.map lam1
  | [] => rfl
  | x :: r => congrArg (lam1 x :: ·) (lamS_map r)
theorem lamS_get {sl : List Sl} {i : Nat} {x : Sl} (h : (lamS sl)[i]? = some x) : x = .n ∨ ∃ d, x = .v d ∧ sl[i]? = some (.v d) := by
  rw [lamS_map, List.getElem?_map] at h
  cases e : sl[i]? with
  | none => rw [e] at h; cases h
  | some y =>
    rw [e] at h
    cases y <;> cases h <;> first | exact .inl rfl | exact .inr ⟨_, rfl, rfl⟩
/-- its reading at the maker's frame -/
def gLamT (gb : GE) (r : DL.Fr) (M : Mem) (Q : D → Mem → Prop) (X : Addr → Mem → Prop) : Prop := ∃ Xd : Addr → Mem → Prop, (∀ C M', Xd C M' → X C M') ∧ gb ⟨lamS r.sl, Xd⟩ M Q
theorem gLamT_mono {gb : GE} (h : ∀ r M Q Q', (∀ d M', Q d M' → Q' d M') → gb r M Q → gb r M Q') (r : DL.Fr) : MonoT (gLamT gb r) := fun M Q Q' X X' hq hx ⟨Xd, l, q⟩ => ⟨Xd, fun C M' z => hx _ _ (l _ _ z), h _ _ _ _ hq q⟩
/-- where its body is reckoned -/
def lamTb (K : PySem.W.Frag) (σ : L2.St) (sl : List Sl) (gb : GE) (Ex : XK) (H : Hp) (Q : VK) : Prop := ∃ (B : Addr → Prop) (M : Mem) (O : Own) (Qd : D → Mem → Prop) (Xd : Addr → Mem → Prop), MemOk K B H M O ∧ Flds O ∧ (∀ i x, (lamS sl)[i]? = some x → SlOk K B H M O i ((σ[i]?).getD none) x) ∧ gb ⟨lamS sl, Xd⟩ M Qd ∧
  (∀ d M' v H' O', Qd d M' → MemOk K B H' M' O' → Flds O' → Step (Mut M O) H (Mut M' O') H' → Is K (Av B M' O') H' v d → Q v H') ∧ (∀ C M' H' O', Xd C M' → MemOk K B H' M' O' → Flds O' → Step (Mut M O) H (Mut M' O') H' → Ex (.ref C) none H')
theorem lam_body {X : Cx} {σ : L2.St} {sl : List Sl} {gb : GE} {body : Expr} {Ex : XK} {A : Around} {outer : List Env} {s : Shared} {H : Hp} {scope : Scope} {f c' : Addr} (hl : σ.length = sl.length) (hb : DE true false (lamCx X A outer s H Ex scope f c') body gb) :
    PE (lamCx X A outer s H Ex scope f c') body (fun σ' H Q => σ' = σ ∧ lamTb X.K σ sl gb Ex H Q) := by
  refine peI hb.run fun σ' H1 Q ⟨es, B, M, O, Qd, Xd, hm, hO, hs, q, h1, h2⟩ => ?_
  subst es
  refine ⟨B, ⟨B, H1, Mut M O, Xd, fun C H' => Ex (.ref C) none H'⟩, ⟨lamS sl, Xd⟩, M, O, ⟨hm, ?_, hs, Step.refl _ _, fun _ z => z, fun C M' H' O' a1 a2 a3 => ?_, ?_, rfl⟩, hb.mono _ _ _ _ (fun d M' k v H' O' R' l i => ?_) q⟩
  · show σ'.length = (lamS sl).length
    rw [lamS_map, List.length_map]
    exact hl
  · exact h2 C M' H' (drops O') a3 a1.drops (drops_flds _) (a2.trans (step_id fun b _ n z => n (mut_drops b z)))
  · exact (takes_of rfl rfl rfl rfl).imp fun cls d σ H h => by
      obtain ⟨C, e1, e2, h⟩ := h
      subst e1; subst e2
      exact h
  · exact h1 d M' v H' (drops O') k R'.m.drops (drops_flds _) (l.2.trans (step_id fun b _ n z => n (mut_drops b z))) (i.step (step_id fun b _ n z => n (z.elim .inl fun z => .inr (mut_drops b z))))
/-- the call of the lambda, from the def that got it -/
theorem lam_act {X : Cx} {pins : List (Addr × Obj)} {σ : L2.St} {H : Hp} {s : Shared} {sl : List Sl} {gb : GE} {f c' g : Addr} {Ng : List Str} {qg q : Str} {sg : Scope} {cdg pm ctv : Value} {params : Arguments} {body : Expr} {scope : Scope} {k : Nat} {Eg : XK}
    (I : Inv X pins σ H s) (L : LamS X.env.scope scope) (hf : s.heap.get? f = some (lamO X params body scope pm c' ctv)) (hfn : H f = none) (hfr : f ∉ frs X.stack) (hq : X.env.qual ++ "<lambda>" = q) (hl : σ.length = sl.length)
    (hbind : bindArgs (PySem.W.kla_fn "<lambda>" (X.env.qual ++ "<lambda>") params body scope (cloFrom X.env.cells scope.names []) pm (.ref c') ctv) ⟨[], []⟩ = pure []) (hgd : X.A.guards = some []) (hr : Room (k + 1) (X.A.deeper (envOfC qg sg s.heap.objs.size g cdg)))
    (hbody : ∀ (A : Around) (outer : List Env) (s : Shared) (H : Hp) (Ex : XK), Room k (A.deeper (lamEnv X scope s.heap.objs.size f c')) → A.guards = some [] → DE true false (lamCx X A outer s H Ex scope f c') body gb) :
    LamAct (cxOf (L2.CX X.prog X.w) X.prog X.w X.K X.mg X.base Ng qg sg g cdg X.A X.stack s H Eg) f (fun Ex HZ Q => HZ c' = some (CodeO c' q) ∧ lamTb X.K σ sl gb Ex HZ Q) := by
  subst hq
  intro pn xe pinsZ sZ σZ HZ Q Ex IZ ⟨hc, ht⟩ hx
  have of1 : sZ.heap.get? f = some (lamO X params body scope pm c' ctv) := IZ.base.keep f _ hf hfn hfr fun z => nomatch (show f ∈ ([] : List Addr) from z)
  have un : Un (frs X.stack) [] H HZ s.heap sZ.heap := IZ.base
  obtain ⟨⟨oc, vs, t, hoc, hdc, hvc⟩, _, _⟩ := IZ.hok c' _ hc
  refine ⟨⟨_, _, _, _, of1⟩, ?_⟩
  have rc : codeAny (model X.prog X.w) (X.A.deeper (envOfC qg sg s.heap.objs.size g cdg)) (.call (.ref f) ⟨[], []⟩) (CR (L2.CX X.prog X.w) (envOfC qg sg s.heap.objs.size g cdg :: X.stack) X.prog X.w HZ sZ Q Ex) sZ := by
    refine PySem.W.kla_callFunE hr.depth of1 rfl L.co L.gen rfl ⟨c', oc, vs, t, rfl, hoc, hdc, hvc⟩ ?_
    rw [hbind]
    refine wpAny_pure (wpAny_newFunctionEnv (fun y hy => (L.own y hy).2) (fun y hy => (List.not_mem_nil hy).elim) (fun h1 hns hsb => ⟨IZ.nolimit.fresh _ hsb, ?_⟩) L.kind)
    have kp : ∀ b o, sZ.heap.get? b = some o → h1.get? b = some o := fun b o e => hsb.extBut b o (Nat.ne_of_lt (Heap.lt_size e)) (Heap.get?_push_of_some _ e)
    have J : Inv (lamCx X (X.A.deeper (envOfC qg sg s.heap.objs.size g cdg)) (envOfC qg sg s.heap.objs.size g cdg :: X.stack) sZ HZ Ex scope f c') [] σ HZ { sZ with heap := h1, toks := sZ.toks + ([] : List (Str × Value)).length } :=
      lam_start2 I L IZ.env0 hr.hd un hns kp
    show codeAny _ _ (.expr body (lamEnv X scope sZ.heap.objs.size f c')) _ _
    refine PySem.W.kla_codeExpr (wpAny_mono ((lam_body hl (hbody _ _ sZ HZ Ex (hr.deeper _) hgd)).run [] _ _ HZ Q J ⟨rfl, ht⟩) (fun v s' hq => ?_) fun e s' hq => hq)
    obtain ⟨w', H', J', rv, q⟩ := hq
    exact ⟨w', H', J'.os, J'.bare, J'.base, J'.hok, rv, q⟩
  refine wpAny_call (codeAny_mono rc fun r s' hq => ?_)
  cases r with
  | error e => exact hx e s' hq
  | ok fl =>
    cases fl with
    | ret u => exact IZ.after hq
    | next => exact hq.elim
    | brk => exact hq.elim
    | cont => exact hq.elim
/-- what the lambda promises -/
theorem lam_pr {K : PySem.W.Frag} {B : Addr → Prop} {M : Mem} {O : Own} {H : Hp} {σ : L2.St} {r : DL.Fr} {gb : GE} {c' : Addr} {q : Str} (hs : ∀ i x, r.sl[i]? = some x → SlOk K B H M O i ((σ[i]?).getD none) x) (hc : H c' = some (CodeO c' q)) (nc : ¬ Av B M O c')
    (hg : ∀ r M Q Q', (∀ d M', Q d M' → Q' d M') → gb r M Q → gb r M Q') :
    LamPr K (Av B M O) H (gLamT gb r) (fun Ex HZ Q => HZ c' = some (CodeO c' q) ∧ lamTb K σ r.sl gb Ex HZ Q) := by
  intro B2 M2 O2 H2 Qd Xd Q Ex hm hO st ⟨Xe, l, qb⟩ h1 h2
  refine ⟨(st c' _ hc nc).1, B2, M2, O2, Qd, Xe, hm, hO, fun i x e => ?_, qb, h1, fun C M' H' O' z => h2 C M' H' O' (l _ _ z)⟩
  rcases lamS_get e with rfl | ⟨d, rfl, e2⟩
  · trivial
  · obtain ⟨v, e3, e4⟩ := hs i _ e2
    exact ⟨v, e3, e4.step st⟩
structure FnL (P : Program) (w : World) (K : PySem.W.Frag) (mg : Str → Option Value) (base : Heap) (k : Nat) (g : Addr) (N : List Str) (qual : Str) (sc : Scope) (cdv : Value) (ks : List AK) (fs : LmT → FS) : Prop where
  run : ∀ (A : Around) (outer : List Env) (s : Shared) (H : Hp) (lm : Lm) (sp : LSp) (us : List Value) (vs : List V) (B : Addr → Prop) (M : Mem) (O : Own) (ds : List D) (Q : VK) (Ex : XK), Room k A → A.guards = some [] → Env0 P w K mg base A outer s H → Vals vs us → us.length = ks.length →
    MemOk K B H M O → Flds O → ArgsOk K (Av B M O) (Mut M O) H ks vs ds → lm.U = Av B M O → lm.H = H → MonoT lm.tl → LamPr K lm.U lm.H lm.tl sp → LamAct (cxOf (L2.CX P w) P w K mg base N qual sc g cdv A outer s H Ex) lm.f sp →
    fs lm.tl ds M (fun d M' => ∀ v H' O', MemOk K B H' M' O' → Flds O' → Step (Mut M O) H (Mut M' O') H' → Is K (Av B M' O') H' v d → Q v H') (fun C M' => ∀ H' O', MemOk K B H' M' O' → Flds O' → Step (Mut M O) H (Mut M' O') H' → Ex (.ref C) none H') →
    codeAny (model P w) A (.call (.ref g) ⟨.ref lm.f :: us, []⟩) (CR (L2.CX P w) outer P w H s Q Ex) s
def entryL (n : Nat) (lm : Lm) (ks : List AK) (ds : List D) (X : Addr → Mem → Prop) : DL.Fr := ⟨.f lm :: aSls ks ds ++ List.replicate (n - 1 - ks.length) .n, X⟩
section
variable {P : Program} {w : World} {K : PySem.W.Frag} {mg : Str → Option Value} {base : Heap} {k : Nat} {f : Addr} {fd : FuncData} {a : Str} {ps : List Str} {fs : LmT → FS} {ks : List AK}
theorem d_fnL {x qual : Str} {st : Stmt} {N : List Str} {g : Lm → GS} {cdv : Value} {kV doc pm ct oc : Value} {an od : Option Addr} {osl : Array (Option Value)} (lk : K.lookup f = some ⟨oc, od, .func (PySem.W.fnOf x qual (defArgs st) (defBody st) (defScope st) .none kV doc pm an cdv ct), osl⟩) (hcd : PySem.W.codeIn K cdv qual = true)
    (hb : L2.Binds K (PySem.W.fnOf x qual (defArgs st) (defBody st) (defScope st) .none kV doc pm an cdv ct) (a :: ps) []) (S : FnScope N (a :: ps) (defScope st)) (hk : ks.length = ps.length)
    (hbody : ∀ (A : Around) (outer : List Env) (s : Shared) (H : Hp) (Ex : XK) (lm : Lm) (sp : LSp), Room k (A.deeper (envOfC qual (defScope st) s.heap.objs.size f cdv)) → A.guards = some [] → MonoT lm.tl → LamPr K lm.U lm.H lm.tl sp → LamAct (cxOf (L2.CX P w) P w K mg base N qual (defScope st) f cdv A outer s H Ex) lm.f sp →
      DSs (cxOf (L2.CX P w) P w K mg base N qual (defScope st) f cdv A outer s H Ex) (defBody st) (g lm))
    (hfs : ∀ lm ds M Q X, MonoT lm.tl → fs lm.tl ds M Q X → ds.length = ks.length → g lm { nx := fun _ M' => Q .non M', rt := Q } (entryL N.length lm ks ds X) M) : FnL P w K mg base (k + 1) f N qual (defScope st) cdv ks fs := by
  refine ⟨fun A outer s H lm sp us vs B M O ds Q Ex hr hgd e0 rv hul hm hO ha eU eH hmt hp act hq => ?_⟩
  have kIn : K.In s.heap := e0.mod.kin.keeps fun b o e => (e0.bs b o e).1
  refine run_ofS (N := N) (ps := a :: ps) (us := .ref lm.f :: us) (vs := .ref lm.f :: vs) lk hcd S hr e0 ?_ (.cons rfl rv) (by rw [List.length_cons, List.length_cons, rv.length, hul, hk]) fun hr' => ?_
  · have := hb s (.ref lm.f :: us) kIn (by rw [List.append_nil, List.length_cons, List.length_cons, hul, hk])
    rw [List.append_nil] at this
    exact this
  · have hd := hbody A outer s H Ex lm sp hr' hgd hmt hp act
    refine ⟨_, hd.run, B, ⟨B, H, Mut M O, fun C M' => ∀ H' O', MemOk K B H' M' O' → Flds O' → Step (Mut M O) H (Mut M' O') H' → Ex (.ref C) none H', fun C H' => Ex (.ref C) none H'⟩, entryL N.length lm ks ds _, M, O, ⟨hm, ?_, fun i x e => ?_, Step.refl _ _, fun _ z => z, fun C M' H' O' h1 h2 h3 => h3 H' (drops O') h1.drops (drops_flds _) (h2.trans (step_id fun b _ n z => n (mut_drops b z))), ?_, rfl⟩, ?_⟩
    · show (L2.start N (.ref lm.f :: vs)).length = (Sl.f lm :: aSls ks ds ++ List.replicate (N.length - 1 - ks.length) Sl.n).length
      unfold L2.start
      rw [List.length_append, List.length_append, List.length_map, List.length_replicate, List.length_replicate, List.length_cons, List.length_cons, (argSls ha).1, ha.len]
      omega
    · have e : (Sl.f lm :: aSls ks ds ++ List.replicate (N.length - 1 - ks.length) Sl.n)[i]? = some x := e
      cases i with
      | zero =>
        cases e
        exact ⟨rfl, by rw [eU, eH]; exact Step.refl _ _⟩
      | succ i =>
        have e : (aSls ks ds ++ List.replicate (N.length - 1 - ks.length) Sl.n)[i]? = some x := e
        by_cases hi : i < (aSls ks ds).length
        · rw [List.getElem?_append_left hi] at e
          obtain ⟨v, hv, q⟩ := (argSls ha).2 i x e
          have e2 : (L2.start N (.ref lm.f :: vs))[i + 1]? = some (some v) := by
            unfold L2.start
            rw [List.getElem?_append_left (by rw [List.length_map, List.length_cons, ← (argSls ha).1]; omega), List.getElem?_map, List.getElem?_cons_succ, hv]
            rfl
          rw [e2]
          exact q (i + 1)
        · rw [List.getElem?_append_right (by omega), List.getElem?_replicate] at e
          split at e
          · cases e
            trivial
          · cases e
    · exact (takes_of rfl rfl rfl rfl).imp fun cls d σ H h => by
        obtain ⟨C, e1, e2, h⟩ := h
        subst e1; subst e2
        exact h
    · refine hd.mono { nx := fun _ M' => (fun d M' => ∀ v H' O', MemOk K B H' M' O' → Flds O' → Step (Mut M O) H (Mut M' O') H' → Is K (Av B M' O') H' v d → Q v H') .non M', rt := fun d M' => ∀ v H' O', MemOk K B H' M' O' → Flds O' → Step (Mut M O) H (Mut M' O') H' → Is K (Av B M' O') H' v d → Q v H' } _ _ _ ⟨fun r' M' q σ' H' O' R' => ?_, fun d M' q v H' O' h1 h2 h3 => ?_, fun _ _ z => z.elim, fun _ _ z => z.elim⟩ (hfs lm ds M _ _ hmt hq ha.len2)
      · exact q .non H' (drops O') R'.m.drops (drops_flds _) (R'.ent.trans (step_id fun b _ n z => n (mut_drops b z))) .non
      · exact q v H' (drops O') h1.drops (drops_flds _) (h2.trans (step_id fun b _ n z => n (mut_drops b z))) (h3.step (step_id fun b _ n z => n (z.elim .inl fun z => .inr (mut_drops b z))))
end
theorem roomDown {j k : Nat} {A : Around} (r : Room k A) (h : j ≤ k) : Room j A := r.mono h
/-- a def that is handed a lambda first, by its name -/
structure DefL (P : Program) (w : World) (K : PySem.W.Frag) (mg : Str → Option Value) (base : Heap) (n : Nat) (x : Str) (a : Str) (ks : List AK) (fs : LmT → FS) : Prop where
  ex : ∃ f N qual sc cdv, FnL P w K mg base n f N qual sc cdv ks fs ∧ mg x = some (.ref f) ∧ PySem.W.keepIn K (.ref f) = true
  mo : ∀ tl, MonoT tl → MonoF (fs tl)
theorem DefL.mono {P : Program} {w : World} {K : PySem.W.Frag} {mg : Str → Option Value} {base : Heap} {j n : Nat} {x a : Str} {ks : List AK} {fs : LmT → FS} (D : DefL P w K mg base j x a ks fs) (h : j ≤ n := by decide) : DefL P w K mg base n x a ks fs :=
  let ⟨f, N, qual, sc, cdv, F, q⟩ := D.ex
  ⟨⟨f, N, qual, sc, cdv, ⟨fun A outer s H lm sp us vs B M O ds Q Ex hr => F.run A outer s H lm sp us vs B M O ds Q Ex (roomDown hr h)⟩, q⟩, D.mo⟩
section
variable {X : Cx} {es : List Expr} {gs : GA} {gb : GE} {n : Nat} {x a : Str} {ks : List AK} {fs : LmT → FS} {pf lpos pos : Pos} {params : Arguments} {body : Expr} {scope : Scope} {q : Str} {c P : Addr}
/-- x(lambda: body, ..) -/
def gCallL (P : Addr) (q : Str) (fs : LmT → FS) (gb : GE) (gs : GA) : GE := fun r M Q => M P = some (.tab q) ∧ gs r M fun ds M1 => fs (gLamT gb r) ds M1 Q r.ex
end
end DL
set_option Elab.async false
set_option linter.all false
set_option maxRecDepth 100000
set_option maxHeartbeats 2000000
namespace DL
open PySem PySem.Spec PySem.W PyProof.Rows L2 LamX
section
variable {fa : List He.Fa} {fn : List He.DefD} {ts : List He.Tab} {cs : List Ck} {w : World} {K : PySem.W.Frag} {mg : Str → Option Value} {P : Program} {base : Heap} {k : Nat} {ks : List AK}
/-- the tables of those that make lambdas, at a base -/
def TBs (K : PySem.W.Frag) (mg : Str → Option Value) (base : Heap) (xs : List Str) : Prop := ∀ x ∈ xs, TabB base mg (tC K x) (tP K x)
theorem WorC.cod (W : WorC fa fn ts cs w K mg) (i : Nat) {xs : List Str} (h : cs[i]? = some (.cods xs) := by rfl) : (∀ x ∈ xs, tabIn K x = some (tC K x, tP K x) ∧ K.lookup (tP K x) = none) ∧ (xs.map (tP K)).Nodup := by
  have c : (xs.all (fun x => (tabIn K x).isSome && (K.lookup (tP K x)).isNone) && decide (xs.map (tP K)).Nodup) = true := W.ck i h
  rw [Bool.and_eq_true, List.all_eq_true, decide_eq_true_eq] at c
  refine ⟨fun x hx => ?_, c.2⟩
  have d := c.1 x hx
  rw [Bool.and_eq_true] at d
  refine ⟨?_, by simpa using d.2⟩
  unfold tC tP
  cases e : tabIn K x with
  | none => rw [e] at d; exact nomatch d.1
  | some p => rfl
theorem tab_code {x qual : Str} {st : Stmt} {f c P : Addr} {fd : FuncData} (F : Fun K x qual st f fd) (hf : f = He.ga K x) (ht : tabIn K x = some (c, P)) : fd.code = .ref c := by
  obtain ⟨oc, od, kV, doc, pm, an, cdv, ct, osl, rfl, lk, hcd⟩ := F.ex
  unfold tabIn at ht
  split at ht
  · rename_i g hg
    have e : He.ga K x = g := by unfold He.ga; rw [hg]
    rw [hf, e] at lk
    rw [lk] at ht
    dsimp only at ht
    split at ht
    · split at ht
      · split at ht
        · cases ht
          rfl
        · cases ht
      · cases ht
    · cases ht
  · cases ht
theorem WorC.defT_ {fs : FS} {N ps : List Str} {g : GS} (W : WorC fa fn ts cs w K mg) (i : Nat) {x : Str} {st : Stmt}
    (S : FnScope N ps (defScope st)) (h : fn[i]? = some ⟨(x, none), x, x, defArgs st, defBody st, defScope st, [], []⟩ := by rfl) (h2 : fa[i]? = some (.glo x) := by rfl) (hk : ks.length = ps.length := by rfl)
    (hbd : ∀ (kV doc pm : Value) (an : Option Addr) (cdv ct : Value) (us : List Value), us.length = ps.length → bindArgs (PySem.W.fnOf x x (defArgs st) (defBody st) (defScope st) .none kV doc pm an cdv ct) ⟨us, []⟩ = pure (ps.zip us))
    (hmo : MonoF fs)
    (hbody : ∀ (f : Addr) (cdv : Value) (hcd : tabIn K x = some (tC K x, tP K x) → cdv = .ref (tC K x)) (A : Around) (outer : List Env) (s : Shared) (H : Hp) (E : XK), Room k (A.deeper (envOfC x (defScope st) s.heap.objs.size f cdv)) → A.guards = some [] →
      DSs (cxOf (L2.CX P w) P w K mg base N x (defScope st) f cdv A outer s H E) (defBody st) g)
    (hfs : ∀ ds M Q X, fs ds M Q X → ds.length = ks.length → g { nx := fun _ M' => Q .non M', rt := Q } (entry N.length ks ds X) M) : Def P w K mg base (k + 1) x ps ks fs := by
  obtain ⟨fd, F⟩ := W.c.def_ i h
  have hx := W.glo i h2
  have F1 : Fun K x x st (He.ga K x) fd := He5.fun_of F
  exact ⟨⟨_, fd, d_fnC F1 S hk (fun cdv e => hbody (He.ga K x) cdv fun ht => by rw [← e]; exact tab_code F1 rfl ht) hfs, hx, F1.kp, F1.binds hbd⟩, hmo⟩
theorem WorC.defL_ {fs : LmT → FS} {N ps : List Str} {a : Str} {g : Lm → GS} (W : WorC fa fn ts cs w K mg) (i : Nat) {x : Str} {st : Stmt}
    (S : FnScope N (a :: ps) (defScope st)) (h : fn[i]? = some ⟨(x, none), x, x, defArgs st, defBody st, defScope st, [], []⟩ := by rfl) (h2 : fa[i]? = some (.glo x) := by rfl) (hk : ks.length = ps.length := by rfl)
    (hbd : ∀ (kV doc pm : Value) (an : Option Addr) (cdv ct : Value) (us : List Value), us.length = (a :: ps).length → bindArgs (PySem.W.fnOf x x (defArgs st) (defBody st) (defScope st) .none kV doc pm an cdv ct) ⟨us, []⟩ = pure ((a :: ps).zip us))
    (hmo : ∀ tl, MonoT tl → MonoF (fs tl))
    (hbody : ∀ (f : Addr) (cdv : Value) (A : Around) (outer : List Env) (s : Shared) (H : Hp) (E : XK) (lm : Lm) (sp : LSp), Room k (A.deeper (envOfC x (defScope st) s.heap.objs.size f cdv)) → A.guards = some [] → MonoT lm.tl → LamPr K lm.U lm.H lm.tl sp → LamAct (cxOf (L2.CX P w) P w K mg base N x (defScope st) f cdv A outer s H E) lm.f sp →
      DSs (cxOf (L2.CX P w) P w K mg base N x (defScope st) f cdv A outer s H E) (defBody st) (g lm))
    (hfs : ∀ lm ds M Q X, MonoT lm.tl → fs lm.tl ds M Q X → ds.length = ks.length → g lm { nx := fun _ M' => Q .non M', rt := Q } (entryL N.length lm ks ds X) M) : DefL P w K mg base (k + 1) x a ks fs := by
  obtain ⟨fd, F⟩ := W.c.def_ i h
  have hx := W.glo i h2
  have F1 : Fun K x x st (He.ga K x) fd := He5.fun_of F
  have hb := F1.binds hbd
  obtain ⟨oc, od, kV, doc, pm, an, cdv, ct, osl, rfl, lk, hcd⟩ := F1.ex
  exact ⟨⟨He.ga K x, N, x, _, cdv, d_fnL lk hcd hb S hk (fun A outer s H E lm sp => hbody (He.ga K x) cdv A outer s H E lm sp) hfs, hx, F1.kp⟩, hmo⟩
end
end DL
set_option Elab.async false
set_option linter.all false
set_option maxRecDepth 100000
set_option maxHeartbeats 2000000
namespace DL
open PySem PySem.Spec PySem.W PyProof.Rows L2 LamX
/-- only the script and the tables at ps are tracked -/
def OnlyT (ps : List Addr) (H : Hp) : Prop := ∀ b, (b ∈ ps → H b = some (.tbl #[])) ∧ (b ∉ ps → H b = none ∨ ∃ o xs, H b = some (.frz o (.lst xs)))
abbrev tab0 : Obj := { cls := .none, data := .fields #[] }
/-- the memory at the law's entry: the tables -/
def lq (x : Str) : Str := (x ++ ".<locals>.") ++ "<lambda>"
def MT (K : PySem.W.Frag) (xs : List Str) : Mem := fun b => (xs.find? fun x => decide (tP K x = b)).map fun x => .tab (lq x)
theorem MT_at {K : PySem.W.Frag} : ∀ {xs : List Str}, (xs.map (tP K)).Nodup → ∀ {x : Str}, x ∈ xs → MT K xs (tP K x) = some (.tab (lq x))
  | y :: ys, hn, x, hx => by
    unfold MT
    rw [List.find?_cons]
    rw [List.map_cons, List.nodup_cons] at hn
    rcases List.mem_cons.mp hx with rfl | hx
    · rw [decide_eq_true rfl]
      rfl
    · rw [decide_eq_false fun z => hn.1 (List.mem_map.mpr ⟨x, hx, z.symm⟩)]
      exact MT_at hn.2 hx
theorem MT_some {K : PySem.W.Frag} {xs : List Str} {b : Addr} {mo : MO} (h : MT K xs b = some mo) : b ∈ xs.map (tP K) ∧ ∃ q, mo = .tab q := by
  unfold MT at h
  rw [Option.map_eq_some_iff] at h
  obtain ⟨x, h1, h2⟩ := h
  have := List.find?_some h1
  exact ⟨List.mem_map.mpr ⟨x, List.mem_of_find?_eq_some h1, of_decide_eq_true this⟩, _, h2.symm⟩
theorem only_scrT {K : PySem.W.Frag} {H : Hp} {a : Addr} {ns : List Int} {fs : FS} {xs : List Str} (hO : OnlyT (xs.map (tP K)) H) (hS : SqL K H a (ns.map V.int))
    (h : fs [.lst (ns.map D.int)] (MT K xs) (fun d _ => d = .bl true) fun _ _ => False) (hm : MonoF fs) : toSp K [.s] fs [.ref a] H (fun v _ => v = .bl true) fun _ _ _ => False := by
  have hM : ∀ b, Mut (MT K xs) O0 b → b ∈ xs.map (tP K) := fun b z => by
    rcases z with z | z
    · cases e : MT K xs b with
      | none => exact absurd e z
      | some mo => exact (MT_some e).1
    · exact absurd rfl z
  refine ⟨fun _ => False, MT K xs, O0, [.lst (ns.map D.int)], ⟨fun b mo e => ?_, fun a w e => (nomatch e), fun a z => z.elim⟩, fun a i z => (nomatch z), ⟨⟨a, ns, rfl, rfl, ?_⟩, trivial⟩, ?_⟩
  · obtain ⟨hb, q, rfl⟩ := MT_some e
    refine ⟨fun z => z.elim, rfl, #[], (hO b).1 hb, True.intro, fun pos cv hc => ?_⟩
    have z : codeAmong pos [] = some cv := hc
    simp [codeAmong] at z
  · rcases hS with h | h
    · refine .inl ⟨fun z => ?_, h⟩
      have e := (hO a).1 (hM a z)
      rcases h with h | ⟨o, h⟩
      · rw [e] at h; cases h
      · rw [e] at h; cases h
    · exact .inr (.inr h)
  · refine hm _ _ _ _ _ _ (fun d M' e v H' O' _ _ _ i => ?_) (fun C M' z => z.elim) h
    subst e
    cases i
    rfl
end DL
set_option Elab.async false
set_option linter.all false
set_option maxRecDepth 100000
set_option maxHeartbeats 2000000
namespace DL
open PySem PySem.Spec PySem.W PyProof.Rows L2
section
variable {X : Cx} {w p : Bool} {e : Expr} {ga : GE} {B : Addr → Prop} {E : En} {σ : L2.St} {H : Hp} {r : Fr} {M : Mem} {O : Own} {pf apos cpos pos tpos : Pos} {M1 : Mem} {O1 : Own} {H1 : Hp}
/-- a key and its value -/
def kvD (q : Key × D) : D := .tup [kD q.1, q.2]
def gItemsT (ga : GE) : GE := fun r M Q => ga r M fun d M1 => dicK d fun kds => Q (.tup (kds.map kvD)) M1
def gFvals (ga : GE) : GF := fun r M Q => ga r M fun d M1 => dicK d fun kds => Q (.lst (kds.map Prod.snd)) M1
def giItems (ga : GE) : GI := fun r M Q => ga r M fun d M1 => dicK d fun kds => Q (kds.map kvD) M1
end
end DL
set_option Elab.async false
set_option linter.all false
set_option maxRecDepth 100000
set_option maxHeartbeats 2000000
namespace DL
open PySem PySem.Spec PySem.W PyProof.Rows L2
section
variable {X : Cx} {B : Addr → Prop} {E : En} {σ : L2.St} {H H' : Hp} {r : DL.Fr} {M M' : Mem} {O O' : Own} {p w : Bool} {ks : List AK}
variable {e : Expr} {es : List Expr} {gs : GA} {n : Nat} {a : PySem.Str} {pf pos : Pos} {tbl : List (Addr × FS)}
/-- x(..) of a def that changes nothing, x a slot -/
def gxV (i : Nat) (tbl : List (Addr × FS)) (gs : GA) : GX := fun r M Q Xc => ∃ f fs, r.sl[i]? = some (.v (.ref f)) ∧ (f, fs) ∈ tbl ∧ gs r M fun ds M1 => fs ds M0 (fun d _ => Q d M1) fun C _ => Xc C M1
end
def strsOf : List (Key × D) → Option (List PySem.Str)
  | [] => some []
  | (.inr x, _) :: r => (strsOf r).map (x :: ·)
  | _ => none
def sortDK (d : D) (k : List D → Prop) : Prop := match d with
  | .dic kds => kds.length < 64 ∧ ∃ ks, strsOf kds = some ks ∧ ∀ ys : List PySem.Str, ys.Perm ks → k (ys.map .str)
  | _ => False
theorem sortDK_dic {kds : List (Key × D)} {k : List D → Prop} : sortDK (.dic kds) k = (kds.length < 64 ∧ ∃ ks, strsOf kds = some ks ∧ ∀ ys : List PySem.Str, ys.Perm ks → k (ys.map .str)) := rfl
def gFsortD (ga : GE) : GF := fun r M Q => ga r M fun d M1 => sortDK d fun ds => Q (.lst ds) M1
end DL
set_option Elab.async false
set_option linter.all false
set_option maxRecDepth 100000
set_option maxHeartbeats 2000000
namespace DL
open PySem PySem.Spec PySem.W PyProof.Rows L2
theorem e_gSeq (g g' : GS) : ∀ D r M, gSeq g g' D r M = (g { D with nx := g' D } r M) := fun D r M => propext Iff.rfl
theorem e_gSet (i : Nat) (ge : GE) : ∀ D r M, gSet i ge D r M = (ge r M fun d M1 => D.nx (r.set i (.v d)) M1) := fun D r M => propext Iff.rfl
theorem e_gRet (ge : GE) : ∀ D r M, gRet ge D r M = (ge r M D.rt) := fun D r M => propext Iff.rfl
theorem e_gRetN : ∀ D u1 M, gRetN D u1 M = (D.rt .non M) := fun D u1 M => propext Iff.rfl
theorem e_gNext : ∀ D r M, gNext D r M = (D.nx r M) := fun D r M => propext Iff.rfl
theorem e_gIfS (c : GT) (g g' : GS) : ∀ D r M, gIfS c g g' D r M = (c r M fun b M1 => if b = true then g D r M1 else g' D r M1) := fun D r M => propext Iff.rfl
theorem e_gDrop (ge : GE) : ∀ D r M, gDrop ge D r M = (ge r M fun _ M1 => D.nx r M1) := fun D r M => propext Iff.rfl
theorem e_gOwn (i : Nat) (gf : GF) : ∀ D r M, gOwn i gf D r M = (gf r M fun m M1 => D.nx (r.set i (.o m)) M1) := fun D r M => propext Iff.rfl
theorem e_gApp (i : Nat) (ge : GE) : ∀ D r M, gApp i ge D r M = (match r.sl[i]? with
  | some (.o (.lst ds)) => ge r M fun d M1 => ds.length < sizeLine ∧ D.nx (r.set i (.o (.lst (ds ++ [d])))) M1
  | _ => False) := fun D r M => propext Iff.rfl
theorem e_gExt (i : Nat) (ge : GE) : ∀ D r M, gExt i ge D r M = (match r.sl[i]? with
  | some (.o (.lst ds)) => ge r M fun d M1 => match d with
    | .lst es => ds.length + es.length ≤ sizeLine ∧ D.nx (r.set i (.o (.lst (ds ++ es)))) M1
    | _ => False
  | _ => False) := fun D r M => propext Iff.rfl
theorem e_gForM (go : GE) (gt : GG) (gb : GS) : ∀ D r M, gForM go gt gb D r M = (go r M fun d M1 => mlK d M1 fun l ds => loopDM gt gb l ds ds D r M1) := fun D r M => propext Iff.rfl
theorem e_gLcM (go : GE) (gt : GG) (gtt : GT) (ge : GE) (vs : List Nat) : ∀ r M Q, gLcM go gt gtt ge vs r M Q = (noOwn r vs = true ∧ go r M fun d M1 => mlK d M1 fun l ds => lcDM l ds gt gtt ge (wipeF r vs) ds [] M1 fun acc M2 => Q (.lst acc) M2) := fun r M Q => propext Iff.rfl
theorem e_gCnt (ga gb : GE) : ∀ r M Q, gCnt ga gb r M Q = (ga r M fun d M1 => match d with
  | .lst ds => gb r M1 fun e M2 => (D.ok (.lst ds) = true ∧ e.ok = true) ∧ Q (.int (ds.countP fun z => z.eqv e : Nat)) M2
  | _ => False) := fun r M Q => propext Iff.rfl
theorem e_gTryV (jy jz jn : Nat) (tb : List (Addr × Bool)) (gx : GX) : ∀ D r M, gTryV jy jz jn tb gx D r M = (gx (Fr.mute r) M (fun d M' => D.nx (r.set jy (.v d)) M') (caught tb jz jn D r)) := fun D r M => propext Iff.rfl
theorem e_gTryE (jz jn : Nat) (tb : List (Addr × Bool)) (gx : GX) : ∀ D r M, gTryE jz jn tb gx D r M = (gx (Fr.mute r) M (fun _ M' => D.nx r M') (caught tb jz jn D r)) := fun D r M => propext Iff.rfl
theorem e_gxP (fs : FS) (gs : GA) : ∀ r M Q Xc, gxP fs gs r M Q Xc = (gs r M fun ds M1 => fs ds M0 (fun d _ => Q d M1) fun C _ => Xc C M1) := fun r M Q Xc => propext Iff.rfl
theorem e_gxM (fs : FS) (gs : GA) : ∀ r M Q Xc, gxM fs gs r M Q Xc = (gs r M fun ds M1 => fs ds M1 Q Xc) := fun r M Q Xc => propext Iff.rfl
theorem e_gIPut (i : Nat) (gi ge : GE) : ∀ D r M, gIPut i gi ge D r M = (ge r M fun d M1 => match r.sl[i]? with
  | some (.o (.lst ds)) => gi r M1 fun k M2 => match k with
    | .int k => (match ixN ds.length k with
      | some j => D.nx (r.set i (.o (.lst (ds.set j d)))) M2
      | none => False)
    | _ => False
  | _ => False) := fun D r M => propext Iff.rfl
theorem e_gFrz (i : Nat) (g : GS) : ∀ D r M, gFrz i g D r M = (g D (frz i r) M) := fun D r M => propext Iff.rfl
theorem e_gAsg (ge : GE) (gt : GG) : ∀ D r M, gAsg ge gt D r M = (ge r M fun d M1 => gt d r M1 D.nx) := fun D r M => propext Iff.rfl
theorem e_gPar (i j : Nat) (gs : GA) : ∀ D r M, gPar i j gs D r M = (gs r M fun ds M1 => match ds with
  | [d, e] => D.nx ((r.set i (.v d)).set j (.v e)) M1
  | _ => False) := fun D r M => propext Iff.rfl
theorem e_gPar3 (i j l : Nat) (gs : GA) : ∀ D r M, gPar3 i j l gs D r M = (gs r M fun ds M1 => match ds with
  | [d, e, u] => D.nx (((r.set i (.v d)).set j (.v e)).set l (.v u)) M1
  | _ => False) := fun D r M => propext Iff.rfl
theorem e_gAug (i : Nat) (go : GO) (ge : GE) : ∀ D r M, gAug i go ge D r M = (match r.sl[i]? with
  | some (.v d) => ge r M fun e M1 => go d e M1 fun z M2 => D.nx (r.set i (.v z)) M2
  | _ => False) := fun D r M => propext Iff.rfl
theorem e_gRaise (C : Addr) : ∀ u0 r M, gRaise C u0 r M = (r.ex C M) := fun u0 r M => propext Iff.rfl
theorem e_gRetM (gf : GF) : ∀ D r M, gRetM gf D r M = (gf r M fun m M1 => ∀ a, M1 a = none → D.rt (.ref a) (mup M1 a (.om m))) := fun D r M => propext Iff.rfl
theorem e_gSetM (i : Nat) (gf : GF) : ∀ D r M, gSetM i gf D r M = (gf r M fun m M1 => ∀ a, M1 a = none → D.nx (r.set i (.v (.ref a))) (mup M1 a (.om m))) := fun D r M => propext Iff.rfl
theorem e_gMPut (ga gb gc : GE) : ∀ D r M, gMPut ga gb gc D r M = (gc r M fun v M1 => ga r M1 fun d M2 => gb r M2 fun e M3 => match d, keyD e with
  | .ref l, some k => (match M3 l with
    | some (.om (.dic kds)) => kds.length < sizeLine ∧ D.nx r (mup M3 l (.om (.dic (putD kds k v))))
    | _ => False)
  | _, _ => False) := fun D r M => propext Iff.rfl
theorem e_gMGet (ga gb : GE) : ∀ r M Q, gMGet ga gb r M Q = (ga r M fun d M1 => gb r M1 fun e M2 => match d, keyD e with
  | .ref l, some k => (match M2 l with
    | some (.om (.dic kds)) => (match valD kds k with
      | some v => Q v M2
      | none => False)
    | _ => False)
  | .dic kds, some k => (match valD kds k with
    | some v => Q v M2
    | none => False)
  | _, _ => False) := fun r M Q => propext Iff.rfl
theorem e_g1 (go : GU) (ga : GE) : ∀ r M Q, g1 go ga r M Q = (ga r M fun d M1 => go d M1 Q) := fun r M Q => propext Iff.rfl
theorem e_g2 (go : GO) (ga gb : GE) : ∀ r M Q, g2 go ga gb r M Q = (ga r M fun d M1 => gb r M1 fun e M2 => go d e M2 Q) := fun r M Q => propext Iff.rfl
theorem e_gC (d : D) : ∀ u0 M Q, gC d u0 M Q = (Q d M) := fun u0 M Q => propext Iff.rfl
theorem e_gV (i : Nat) : ∀ r M Q, gV i r M Q = (match r.sl[i]? with
  | some (.v d) => Q d M
  | _ => False) := fun r M Q => propext Iff.rfl
theorem e_gVw (i : Nat) : ∀ r M Q, gVw i r M Q = (match r.sl[i]? with
  | some (.v d) => Q d M
  | some (.o (.lst ds)) => Q (.lst ds) M
  | some (.o (.dic ds)) => Q (.dic ds) M
  | some (.b true ds) => Q (.tup ds) M
  | some (.b false ds) => Q (.lst ds) M
  | _ => False) := fun r M Q => propext Iff.rfl
theorem e_gB (g : GE) : ∀ r M Q, gB g r M Q = (g r M fun d M' => match d with
  | .bl b => Q b M'
  | _ => False) := fun r M Q => propext Iff.rfl
theorem e_gAnd (t u : GT) : ∀ r M Q, gAnd t u r M Q = (t r M fun c M1 => if c = true then u r M1 Q else Q false M1) := fun r M Q => propext Iff.rfl
theorem e_gOr (t u : GT) : ∀ r M Q, gOr t u r M Q = (t r M fun c M1 => if c = true then Q true M1 else u r M1 Q) := fun r M Q => propext Iff.rfl
theorem e_gNot (t : GT) : ∀ r M Q, gNot t r M Q = (t r M fun c M1 => Q (!c) M1) := fun r M Q => propext Iff.rfl
theorem e_gNotV (ga : GE) : ∀ r M Q, gNotV ga r M Q = (ga r M fun d M1 => match d with
  | .bl c => Q (.bl (!c)) M1
  | _ => False) := fun r M Q => propext Iff.rfl
theorem e_gIf (t : GT) (ga gb : GE) : ∀ r M Q, gIf t ga gb r M Q = (t r M fun c M1 => if c = true then ga r M1 Q else gb r M1 Q) := fun r M Q => propext Iff.rfl
theorem e_DL_gCons (ge : GE) (ga : GA) : ∀ r M Q, DL.gCons ge ga r M Q = (ge r M fun d M1 => ga r M1 fun ds M2 => Q (d :: ds) M2) := fun r M Q => propext Iff.rfl
theorem e_DL_gNil : ∀ u0 M Q, DL.gNil u0 M Q = (Q [] M) := fun u0 M Q => propext Iff.rfl
theorem e_DL_gTup (gs : GA) : ∀ r M Q, DL.gTup gs r M Q = (gs r M fun ds M1 => Q (.tup ds) M1) := fun r M Q => propext Iff.rfl
theorem e_DL_gLst (gs : GA) : ∀ r M Q, DL.gLst gs r M Q = (gs r M fun ds M1 => Q (.lst ds) M1) := fun r M Q => propext Iff.rfl
theorem e_gFl (gs : GA) : ∀ r M Q, gFl gs r M Q = (gs r M fun ds M1 => Q (.lst ds) M1) := fun r M Q => propext Iff.rfl
theorem e_gFd (gf : GF) : ∀ r M Q, gFd gf r M Q = (gf r M fun m M1 => match m with
  | .lst ds => Q (.lst ds) M1
  | .dic _ => False) := fun r M Q => propext Iff.rfl
theorem e_gCa (gc : GC) (gs : GA) : ∀ r M Q, gCa gc gs r M Q = (gs r M fun ds M1 => gc ds M1 Q) := fun r M Q => propext Iff.rfl
theorem e_gLenS (i : Nat) : ∀ r M Q, gLenS i r M Q = (match r.sl[i]? with
  | some (.s ns) => Q (.int ns.length) M
  | _ => False) := fun r M Q => propext Iff.rfl
theorem e_gPart (g : GE) : ∀ r M Q, gPart g r M Q = (g r M fun d M1 => match d with
  | .int i => Q (some i) M1
  | _ => False) := fun r M Q => propext Iff.rfl
theorem e_gNoP : ∀ u0 M Q, gNoP u0 M Q = (Q none M) := fun u0 M Q => propext Iff.rfl
theorem e_gDisp (gp : GPs) : ∀ r M Q, gDisp gp r M Q = (gp r M fun kds M1 => Q (.dic (mergeD [] kds)) M1) := fun r M Q => propext Iff.rfl
theorem e_gPcons (x : Str) (g : GE) (gs : GPs) : ∀ r M Q, gPcons x g gs r M Q = (g r M fun d M1 => gs r M1 fun kds M2 => Q ((.inr x, d) :: kds) M2) := fun r M Q => propext Iff.rfl
theorem e_gPnil : ∀ r M Q, gPnil r M Q = (Q [] M) := fun r M Q => propext Iff.rfl
theorem e_gtN (i : Nat) : ∀ d r M Q, gtN i d r M Q = (Q (r.set i (.v d)) M) := fun d r M Q => propext Iff.rfl
theorem e_gtTup (gts : GGs) (n : Nat) : ∀ d r M Q, gtTup gts n d r M Q = (match d with
  | .tup ds => ds.length = n ∧ gts ds r M Q
  | _ => False) := fun d r M Q => propext Iff.rfl
theorem e_gtCons (g : GG) (gs : GGs) : ∀ ds r M Q, gtCons g gs ds r M Q = (match ds with
  | d :: r' => g d r M fun r1 M1 => gs r' r1 M1 Q
  | [] => False) := fun ds r M Q => propext Iff.rfl
theorem e_gtNil : ∀ ds r M Q, gtNil ds r M Q = (ds = [] ∧ Q r M) := fun ds r M Q => propext Iff.rfl
theorem e_gYes : ∀ u0 M Q, gYes u0 M Q = (Q true M) := fun u0 M Q => propext Iff.rfl
theorem e_gFor (gi : GI) (gt : GG) (gb : GS) : ∀ D r M, gFor gi gt gb D r M = (gi r M fun ds M1 => loopD gt gb ds D r M1) := fun D r M => propext Iff.rfl
theorem e_gLc (gi : GI) (gt : GG) (gtt : GT) (ge : GE) (vs : List Nat) : ∀ r M Q, gLc gi gt gtt ge vs r M Q = (noOwn r vs = true ∧ gi r M fun ds M1 => lcD gt gtt ge (wipeF r vs) ds [] M1 fun acc M2 => Q (.lst acc) M2) := fun r M Q => propext Iff.rfl
theorem e_giS (i : Nat) : ∀ r M Q, giS i r M Q = (match r.sl[i]? with
  | some (.s ns) => Q (ns.map D.int) M
  | _ => False) := fun r M Q => propext Iff.rfl
theorem e_gCallP (fs : FS) (gs : GA) : ∀ r M Q, gCallP fs gs r M Q = (gs r M fun ds M1 => fs ds M0 (fun d _ => Q d M1) fun C _ => r.ex C M1) := fun r M Q => propext Iff.rfl
theorem e_gCallM (fs : FS) (gs : GA) : ∀ r M Q, gCallM fs gs r M Q = (gs r M fun ds M1 => fs ds M1 Q r.ex) := fun r M Q => propext Iff.rfl
theorem e_gScr (i : Nat) : ∀ r M Q, gScr i r M Q = (match r.sl[i]? with
  | some (.s ns) => Q [.lst (ns.map D.int)] M
  | _ => False) := fun r M Q => propext Iff.rfl
theorem e_gIdx (ga gb : GE) : ∀ r M Q, gIdx ga gb r M Q = (ga r M fun d M1 => match d with
  | .lst ds => gb r M1 fun e M2 => (D.ok (.lst ds) = true ∧ e.ok = true) ∧ (match ixD ds e 0 with
    | some j => Q (.int (j : Nat)) M2
    | none => False)
  | .tup ds => gb r M1 fun e M2 => ixT ds e fun j => Q (.int (j : Nat)) M2
  | _ => False) := fun r M Q => propext Iff.rfl
theorem e_goAdd_int : type_of% @goAdd_int := by intros; exact propext (Iff.of_eq goAdd_int)
theorem e_goAdd_str : type_of% @goAdd_str := by intros; exact propext (Iff.of_eq goAdd_str)
theorem e_goAdd_tup : type_of% @goAdd_tup := by intros; exact propext (Iff.of_eq goAdd_tup)
theorem e_goAdd_lst : type_of% @goAdd_lst := by intros; exact propext (Iff.of_eq goAdd_lst)
theorem e_goAddW_int : type_of% @goAddW_int := by intros; exact propext (Iff.of_eq goAddW_int)
theorem e_goAddW_lst : type_of% @goAddW_lst := by intros; exact propext (Iff.of_eq goAddW_lst)
theorem e_goPlus_int : type_of% @goPlus_int := by intros; exact propext (Iff.of_eq goPlus_int)
theorem e_goI_int : type_of% @goI_int := by intros; exact propext (Iff.of_eq goI_int)
theorem e_guI_int : type_of% @guI_int := by intros; exact propext (Iff.of_eq guI_int)
theorem e_gcI1_int : type_of% @gcI1_int := by intros; exact propext (Iff.of_eq gcI1_int)
theorem e_goIx_lst : type_of% @goIx_lst := by intros; exact propext (Iff.of_eq goIx_lst)
theorem e_gcLen_lst : type_of% @gcLen_lst := by intros; exact propext (Iff.of_eq gcLen_lst)
theorem e_gcTupleS_lst : type_of% @gcTupleS_lst := by intros; exact propext (Iff.of_eq gcTupleS_lst)
theorem e_gcList_lst : type_of% @gcList_lst := by intros; exact propext (Iff.of_eq gcList_lst)
theorem e_goRevA_lst : type_of% @goRevA_lst := by intros; exact propext (Iff.of_eq goRevA_lst)
theorem e_goIx_tup : type_of% @goIx_tup := by intros; exact propext (Iff.of_eq goIx_tup)
theorem e_gcLen_tup : type_of% @gcLen_tup := by intros; exact propext (Iff.of_eq gcLen_tup)
theorem e_gcTupleS_tup : type_of% @gcTupleS_tup := by intros; exact propext (Iff.of_eq gcTupleS_tup)
theorem e_gcList_tup : type_of% @gcList_tup := by intros; exact propext (Iff.of_eq gcList_tup)
theorem e_goRevA_tup : type_of% @goRevA_tup := by intros; exact propext (Iff.of_eq goRevA_tup)
theorem e_gcTuple_lst : type_of% @gcTuple_lst := by intros; exact propext (Iff.of_eq gcTuple_lst)
theorem e_goIx_str : type_of% @goIx_str := by intros; exact propext (Iff.of_eq goIx_str)
theorem e_gcLen_str : type_of% @gcLen_str := by intros; exact propext (Iff.of_eq gcLen_str)
theorem e_gcInt_int : type_of% @gcInt_int := by intros; exact propext (Iff.of_eq gcInt_int)
theorem e_gcInt_bl : type_of% @gcInt_bl := by intros; exact propext (Iff.of_eq gcInt_bl)
theorem e_goMulT_tup : type_of% @goMulT_tup := by intros; exact propext (Iff.of_eq goMulT_tup)
theorem e_goMulL_lst : type_of% @goMulL_lst := by intros; exact propext (Iff.of_eq goMulL_lst)
theorem e_goIsB_bl : type_of% @goIsB_bl := by intros; exact propext (Iff.of_eq goIsB_bl)
theorem e_goIsN_non : type_of% @goIsN_non := by intros; exact propext (Iff.of_eq goIsN_non)
theorem e_truK_non : type_of% @truK_non := by intros; exact propext (Iff.of_eq truK_non)
theorem e_truK_bl : type_of% @truK_bl := by intros; exact propext (Iff.of_eq truK_bl)
theorem e_truK_int : type_of% @truK_int := by intros; exact propext (Iff.of_eq truK_int)
theorem e_truK_lst : type_of% @truK_lst := by intros; exact propext (Iff.of_eq truK_lst)
theorem e_truK_tup : type_of% @truK_tup := by intros; exact propext (Iff.of_eq truK_tup)
theorem e_truK_str : type_of% @truK_str := by intros; exact propext (Iff.of_eq truK_str)
theorem e_lstK_lst : type_of% @lstK_lst := by intros; exact propext (Iff.of_eq lstK_lst)
theorem e_lstK_tup : type_of% @lstK_tup := by intros; exact propext (Iff.of_eq lstK_tup)
theorem e_slK_lst : type_of% @slK_lst := by intros; exact propext (Iff.of_eq slK_lst)
theorem e_slK_str : type_of% @slK_str := by intros; exact propext (Iff.of_eq slK_str)
theorem e_itsK_lst : type_of% @itsK_lst := by intros; exact propext (Iff.of_eq itsK_lst)
theorem e_itsK_tup : type_of% @itsK_tup := by intros; exact propext (Iff.of_eq itsK_tup)
theorem e_zipK_lst : type_of% @zipK_lst := by intros; exact propext (Iff.of_eq zipK_lst)
theorem e_zipK_tup : type_of% @zipK_tup := by intros; exact propext (Iff.of_eq zipK_tup)
theorem e_ran1K_int : type_of% @ran1K_int := by intros; exact propext (Iff.of_eq ran1K_int)
theorem e_ran2K_int : type_of% @ran2K_int := by intros; exact propext (Iff.of_eq ran2K_int)
theorem e_goLtA_int : type_of% @goLtA_int := by intros; exact propext (Iff.of_eq goLtA_int)
theorem e_goEq_int : type_of% @goEq_int := by intros; exact propext (Iff.of_eq goEq_int)
theorem e_goNe_int : type_of% @goNe_int := by intros; exact propext (Iff.of_eq goNe_int)
theorem e_goEq_bl : type_of% @goEq_bl := by intros; exact propext (Iff.of_eq goEq_bl)
theorem e_goNe_bl : type_of% @goNe_bl := by intros; exact propext (Iff.of_eq goNe_bl)
theorem e_goEq_str : type_of% @goEq_str := by intros; exact propext (Iff.of_eq goEq_str)
theorem e_goNe_str : type_of% @goNe_str := by intros; exact propext (Iff.of_eq goNe_str)
theorem e_goEq_tup : type_of% @goEq_tup := by intros; exact propext (Iff.of_eq goEq_tup)
theorem e_goNe_tup : type_of% @goNe_tup := by intros; exact propext (Iff.of_eq goNe_tup)
theorem e_goEq_lst : type_of% @goEq_lst := by intros; exact propext (Iff.of_eq goEq_lst)
theorem e_goNe_lst : type_of% @goNe_lst := by intros; exact propext (Iff.of_eq goNe_lst)
theorem e_goEq_non : type_of% @goEq_non := by intros; exact propext (Iff.of_eq goEq_non)
theorem e_goNe_non : type_of% @goNe_non := by intros; exact propext (Iff.of_eq goNe_non)
theorem e_gAndV_k : type_of% @gAndV_k := by intros; exact propext (Iff.of_eq gAndV_k)
theorem e_gOrV_k : type_of% @gOrV_k := by intros; exact propext (Iff.of_eq gOrV_k)
theorem e_gCh_k : type_of% @gCh_k := by intros; exact propext (Iff.of_eq gCh_k)
theorem e_gFld (K : PySem.W.Frag) (f : PySem.Str) (ga : GE) : ∀ r M Q, gFld K f ga r M Q = (ga r M fun d M1 => fldK K f d M1 Q) := fun r M Q => propext Iff.rfl
theorem e_fldK_ref : type_of% @fldK_ref := by intros; exact propext (Iff.of_eq fldK_ref)
theorem e_gPutF (K : PySem.W.Frag) (f : PySem.Str) (ga ge : GE) : ∀ D r M, gPutF K f ga ge D r M = (ge r M fun z M1 => ga r M1 fun d M2 => putFK K f z d M2 fun M3 => D.nx r M3) := fun D r M => propext Iff.rfl
theorem e_gPutFM (K : PySem.W.Frag) (f : PySem.Str) (ga : GE) (gf : GF) : ∀ D r M, gPutFM K f ga gf D r M = (gf r M fun m M1 => ∀ l, M1 l = none → ga r (mup M1 l (.om m)) fun d M2 => putFK K f (.ref l) d M2 fun M3 => D.nx r M3) := fun D r M => propext Iff.rfl
theorem e_putFK_ref : type_of% @putFK_ref := by intros; exact propext (Iff.of_eq putFK_ref)
theorem e_gDrf (ga : GE) : ∀ r M Q, gDrf ga r M Q = (ga r M fun d M1 => drfK d M1 Q) := fun r M Q => propext Iff.rfl
theorem e_drfK_ref : type_of% @drfK_ref := by intros; exact propext (Iff.of_eq drfK_ref)
theorem e_gMApp (go ge : GE) : ∀ D r M, gMApp go ge D r M = (go r M fun d M1 => mlK d M1 fun l _ => ge r M1 fun z M2 => mlK (.ref l) M2 fun l ds => ds.length < sizeLine ∧ D.nx r (mup M2 l (.om (.lst (ds ++ [z]))))) := fun D r M => propext Iff.rfl
theorem e_mlK_ref : type_of% @mlK_ref := by intros; exact propext (Iff.of_eq mlK_ref)
theorem e_gMPop (go ge : GE) : ∀ r M Q, gMPop go ge r M Q = (go r M fun d M1 => mlK d M1 fun l _ => ge r M1 fun z M2 => mlK (.ref l) M2 fun l ds => popK z ds fun y ds' => Q y (mup M2 l (.om (.lst ds')))) := fun r M Q => propext Iff.rfl
theorem e_popK_int : type_of% @popK_int := by intros; exact propext (Iff.of_eq popK_int)
theorem e_gMIns (go : GE) (gs : GA) : ∀ D r M, gMIns go gs D r M = (go r M fun d M1 => mlK d M1 fun l _ => gs r M1 fun zs M2 => mlK (.ref l) M2 fun l ds => ins2K zs ds fun ds' => D.nx r (mup M2 l (.om (.lst ds')))) := fun D r M => propext Iff.rfl
theorem e_gMeth (m : PySem.Str) (tbl : List (Addr × FS)) (go : GE) (gs : GA) : ∀ r M Q, gMeth m tbl go gs r M Q = (go r M fun d M1 => mthK m tbl d M1 fun a fs => gs r M1 fun ds M2 => fs (.ref a :: ds) M2 Q r.ex) := fun r M Q => propext Iff.rfl
theorem e_mthK_ref : type_of% @mthK_ref := by intros; exact propext (Iff.of_eq mthK_ref)
theorem e_gMake (C : Addr) (Fk : Prop) (fs : FS) (gs : GA) : ∀ r M Q, gMake C Fk fs gs r M Q = (gs r M fun ds M1 => Fk → ∀ x, M1 x = none → fs (.ref x :: ds) (mup M1 x (.ins C [])) (fun d M2 => d = .non ∧ Q (.ref x) M2) r.ex) := fun r M Q => propext Iff.rfl
theorem e_giR3 (gs : GA) : ∀ r M Q, giR3 gs r M Q = (gs r M fun ds M1 => match ds with
  | [.int i, .int j, .int c] => ∃ n, RgC i j c n ∧ Q (rngC i c n) M1
  | _ => False) := fun r M Q => propext Iff.rfl
theorem e_gFlR1 (ga : GE) : ∀ r M Q, gFlR1 ga r M Q = (ga r M fun y M1 => rg2K (.int 0) y fun ds => Q (.lst ds) M1) := fun r M Q => propext Iff.rfl
theorem e_gFlR2 (ga gb : GE) : ∀ r M Q, gFlR2 ga gb r M Q = (ga r M fun x M1 => gb r M1 fun y M2 => rg2K x y fun ds => Q (.lst ds) M2) := fun r M Q => propext Iff.rfl
theorem e_rg2K_int : type_of% @rg2K_int := by intros; exact propext (Iff.of_eq rg2K_int)
theorem e_gLenSet (ga : GE) : ∀ r M Q, gLenSet ga r M Q = (ga r M fun x M1 => lenSetK x fun d => Q d M1) := fun r M Q => propext Iff.rfl
theorem e_gMinD (ga gb : GE) : ∀ r M Q, gMinD ga gb r M Q = (ga r M fun x M1 => gb r M1 fun y M2 => minDK x y fun d => Q d M2) := fun r M Q => propext Iff.rfl
theorem e_giMem (go : GE) : ∀ r M Q, giMem go r M Q = (go r M fun d M1 => mlK d M1 fun _ ds => Q ds M1) := fun r M Q => propext Iff.rfl
theorem e_giBA (i : Nat) : ∀ r M Q, giBA i r M Q = (match r.sl[i]? with
  | some (.b _ ds) => Q ds M
  | some (.v (.lst ds)) => Q ds M
  | some (.v (.tup ds)) => Q ds M
  | _ => False) := fun r M Q => propext Iff.rfl
theorem e_gMIdx (go ge : GE) : ∀ r M Q, gMIdx go ge r M Q = (go r M fun d M1 => mlK d M1 fun l _ => ge r M1 fun z M2 => mlK (.ref l) M2 fun _ ds => ixM ds z fun j => Q (.int (j : Nat)) M2) := fun r M Q => propext Iff.rfl
theorem e_goTab (a : Addr) (ks : List Str) (neg : Bool) : ∀ d e M Q, goTab a ks neg d e M Q = (match d, e with
  | .str z, .ref b => b = a ∧ Q (.bl (if neg = true then !decide (z ∈ ks) else decide (z ∈ ks))) M
  | _, _ => False) := fun d e M Q => propext Iff.rfl
theorem e_gFsort (ga : GE) : ∀ r M Q, gFsort ga r M Q = (ga r M fun d M1 => sortK d fun ds => Q (.lst ds) M1) := fun r M Q => propext Iff.rfl
theorem e_gStep (ga gb : GE) : ∀ r M Q, gStep ga gb r M Q = (ga r M fun d M1 => gb r M1 fun e M2 => stepK d e M2 Q) := fun r M Q => propext Iff.rfl
theorem e_stepK_lst : type_of% @stepK_lst := by intros; exact propext (Iff.of_eq stepK_lst)
theorem e_gAppM (i : Nat) (gf : GF) : ∀ D r M, gAppM i gf D r M = (match r.sl[i]? with
  | some (.o (.lst ds)) => gf r M fun m M1 => ds.length < sizeLine ∧ ∀ a, M1 a = none → D.nx (r.set i (.o (.lst (ds ++ [.ref a])))) (mup M1 a (.om m))
  | _ => False) := fun D r M => propext Iff.rfl
theorem e_gDictV (ga : GE) : ∀ r M Q, gDictV ga r M Q = (ga r M fun d M1 => dictK d fun kds => Q (.dic kds) M1) := fun r M Q => propext Iff.rfl
theorem e_gFdict (ga : GE) : ∀ r M Q, gFdict ga r M Q = (ga r M fun d M1 => dictK d fun kds => Q (.dic kds) M1) := fun r M Q => propext Iff.rfl
theorem e_dictK_lst : type_of% @dictK_lst := by intros; exact propext (Iff.of_eq dictK_lst)
theorem e_dictK_tup : type_of% @dictK_tup := by intros; exact propext (Iff.of_eq dictK_tup)
theorem e_dictK_dic : type_of% @dictK_dic := by intros; exact propext (Iff.of_eq dictK_dic)
theorem e_gDic0 : ∀ u0 M Q, gDic0 u0 M Q = (Q (.dic []) M) := fun u0 M Q => propext Iff.rfl
theorem e_gFdic0 : ∀ u0 M Q, gFdic0 u0 M Q = (Q (.dic []) M) := fun u0 M Q => propext Iff.rfl
theorem e_gDGet1 (go ge : GE) : ∀ r M Q, gDGet1 go ge r M Q = (go r M fun d M1 => dicK d fun kds => ge r M1 fun e M2 => getK kds e .non fun z => Q z M2) := fun r M Q => propext Iff.rfl
theorem e_gDGet2 (go ge gz : GE) : ∀ r M Q, gDGet2 go ge gz r M Q = (go r M fun d M1 => dicK d fun kds => ge r M1 fun e M2 => gz r M2 fun z M3 => getK kds e z fun z => Q z M3) := fun r M Q => propext Iff.rfl
theorem e_dicK_dic : type_of% @dicK_dic := by intros; exact propext (Iff.of_eq dicK_dic)
theorem e_gOPut (i : Nat) (ge gv : GE) : ∀ D r M, gOPut i ge gv D r M = (match r.sl[i]? with
  | some (.o (.dic kds)) => gv r M fun v M1 => ge r M1 fun e M2 => ∃ k, keyD e = some k ∧ kds.length < sizeLine ∧ D.nx (r.set i (.o (.dic (putD kds k v)))) M2
  | _ => False) := fun D r M => propext Iff.rfl
theorem e_gOPop (i : Nat) (ge gz : GE) : ∀ D r M, gOPop i ge gz D r M = (match r.sl[i]? with
  | some (.o (.dic kds)) => ge r M fun e M1 => gz r M1 fun z M2 => ∃ k, keyD e = some k ∧ D.nx (r.set i (.o (.dic (dropD kds k)))) M2
  | _ => False) := fun D r M => propext Iff.rfl
theorem e_giKeys (ga : GE) : ∀ r M Q, giKeys ga r M Q = (ga r M fun d M1 => dicK d fun kds => Q (kds.map fun kv => kD kv.1) M1) := fun r M Q => propext Iff.rfl
theorem e_gPconsI (x : Int) (g : GE) (gs : GPs) : ∀ r M Q, gPconsI x g gs r M Q = (g r M fun d M1 => gs r M1 fun kds M2 => Q ((.inl x, d) :: kds) M2) := fun r M Q => propext Iff.rfl
theorem e_gDispV (gp : GPs) : ∀ r M Q, gDispV gp r M Q = (gp r M fun kds M1 => Q (.dic (mergeD [] kds)) M1) := fun r M Q => propext Iff.rfl
theorem e_goIx_dic : type_of% @goIx_dic := by intros; exact propext (Iff.of_eq goIx_dic)
theorem e_gcLen_dic : type_of% @gcLen_dic := by intros; exact propext (Iff.of_eq gcLen_dic)
theorem e_lstK_dic : type_of% @lstK_dic := by intros; exact propext (Iff.of_eq lstK_dic)
theorem e_truK_dic : type_of% @truK_dic := by intros; exact propext (Iff.of_eq truK_dic)
theorem e_gOIns (i : Nat) (gs : GA) : ∀ D r M, gOIns i gs D r M = (match r.sl[i]? with
  | some (.o (.lst ds)) => gs r M fun zs M1 => ins2K zs ds fun ds' => D.nx (r.set i (.o (.lst ds'))) M1
  | _ => False) := fun D r M => propext Iff.rfl
theorem e_gCallL (P : Addr) (q : Str) (fs : LmT → FS) (gb : GE) (gs : GA) : ∀ r M Q, gCallL P q fs gb gs r M Q = (M P = some (.tab q) ∧ gs r M fun ds M1 => fs (gLamT gb r) ds M1 Q r.ex) := fun r M Q => propext Iff.rfl
theorem e_gAct (i : Nat) (lm : Lm) : ∀ r M Q, gAct i lm r M Q = (r.sl[i]? = some (.f lm) ∧ lm.tl M Q r.ex) := fun r M Q => propext Iff.rfl
theorem e_gxAct (i : Nat) (lm : Lm) : ∀ r M Q Xc, gxAct i lm r M Q Xc = (r.sl[i]? = some (.f lm) ∧ lm.tl M Q Xc) := fun r M Q Xc => propext Iff.rfl
theorem e_gxV (i : Nat) (tbl : List (Addr × FS)) (gs : GA) : ∀ r M Q Xc, gxV i tbl gs r M Q Xc = (∃ f fs, r.sl[i]? = some (.v (.ref f)) ∧ (f, fs) ∈ tbl ∧ gs r M fun ds M1 => fs ds M0 (fun d _ => Q d M1) fun C _ => Xc C M1) := fun r M Q Xc => propext Iff.rfl
theorem e_gItemsT (ga : GE) : ∀ r M Q, gItemsT ga r M Q = (ga r M fun d M1 => dicK d fun kds => Q (.tup (kds.map kvD)) M1) := fun r M Q => propext Iff.rfl
theorem e_gFvals (ga : GE) : ∀ r M Q, gFvals ga r M Q = (ga r M fun d M1 => dicK d fun kds => Q (.lst (kds.map Prod.snd)) M1) := fun r M Q => propext Iff.rfl
theorem e_giItems (ga : GE) : ∀ r M Q, giItems ga r M Q = (ga r M fun d M1 => dicK d fun kds => Q (kds.map kvD) M1) := fun r M Q => propext Iff.rfl
theorem e_gFsortD (ga : GE) : ∀ r M Q, gFsortD ga r M Q = (ga r M fun d M1 => sortDK d fun ds => Q (.lst ds) M1) := fun r M Q => propext Iff.rfl
theorem e_sortDK_dic : type_of% @sortDK_dic := by intros; exact propext (Iff.of_eq sortDK_dic)
end DL
set_option Elab.async false
set_option linter.all false
set_option maxRecDepth 100000
set_option maxHeartbeats 2000000
namespace DL
open PySem PySem.Spec PySem.W PyProof.Rows L2
/-- ==, an empty list or tuple behind it -/
def goEqE (c : Bool) : GO := fun d e M Q => match d, e with
  | .lst xs, .lst [] => Q (.bl (xor c xs.isEmpty)) M
  | .tup xs, .tup [] => Q (.bl (xor c xs.isEmpty)) M
  | _, _ => False
theorem goEqE_lst {c : Bool} {xs : List D} {M : Mem} {Q : D → Mem → Prop} : goEqE c (.lst xs) (.lst []) M Q = Q (.bl (xor c xs.isEmpty)) M := propext Iff.rfl
theorem goEqE_tup {c : Bool} {xs : List D} {M : Mem} {Q : D → Mem → Prop} : goEqE c (.tup xs) (.tup []) M Q = Q (.bl (xor c xs.isEmpty)) M := propext Iff.rfl
end DL
set_option Elab.async false
set_option linter.all false
set_option maxRecDepth 100000
set_option maxHeartbeats 2000000
namespace DL
open PySem PySem.Spec PySem.W PyProof.Rows L2
def keyP : Key → PyData
  | .inl i => .int i
  | .inr x => .str x
mutual
def D.pyA : D → PyData
  | .non => .none
  | .bl b => .bool b
  | .int i => .int i
  | .str x => .str x
  | .tup xs => .tuple (D.pyAL xs)
  | .lst xs => .list (D.pyAL xs)
  | .dic kds => .dict (D.pyAK kds)
  | _ => .none
def D.pyAL : List D → List PyData
  | [] => []
  | d :: r => d.pyA :: D.pyAL r
def D.pyAK : List (Key × D) → List (PyData × PyData)
  | [] => []
  | (k, d) :: r => (keyP k, d.pyA) :: D.pyAK r
end
section
variable {X : Cx} {pins : List (Addr × Obj)} {σ : L2.St} {H : Hp} {s : Shared}
theorem pairs_reads {P : Program} {w : World} {h : Heap} : ∀ {es : List DictEntry} {vs : List (Key × Value)} {kds : List (PyData × PyData)} {as : List Addr}, Pairs (mixKind P w) es vs → kds.map (·.1) = vs.map (fun q => keyP q.1) → ReadsAll h (vs.map (·.2)) (kds.map (·.2)) as →
    ReadsAll h (es.map (·.key)) (kds.map (·.1)) [] ∧ ReadsAll h (es.map (·.val)) (kds.map (·.2)) as := by
  intro es vs kds as hp
  induction hp generalizing kds as with
  | nil =>
    intro hk hv
    cases kds with
    | nil => exact ⟨.nil, hv⟩
    | cons _ _ => cases hk
  | @cons e kv es kvs h1 h2 _ ih =>
    intro hk hv
    cases kds with
    | nil => cases hk
    | cons q kds =>
      obtain ⟨e1, e2⟩ := List.cons.inj hk
      cases hv with
      | @cons _ _ _ _ as bs hv1 hv2 =>
        obtain ⟨i1, i2⟩ := ih e2 hv2
        refine ⟨?_, ?_⟩
        · have key : Reads h e.key q.1 [] := by
            rw [show q.1 = keyP kv.1 from e1]
            rcases keyIs_shape (show keyIs kv.1 e.key = true from h1) with ⟨i, t, e3, e4⟩ | ⟨x, t, e3, e4⟩
            · rw [e3, e4]; exact .int i t
            · rw [e3, e4]; exact .str x t
          exact ReadsAll.cons (as := []) (bs := []) key i1
        · rw [List.map_cons, h2]
          exact .cons hv1 i2
mutual
theorem Is.rdA {A : Addr → Prop} (I : Inv X pins σ H s) (hsm : H sysModules = none) : ∀ {v : V} {d : D}, Is X.K A H v d → d.da = true → ∀ {u : Value}, RelV v u → ∃ as, Reads s.heap u d.pyA as ∧ sysModules ∉ as
  | _, _, .non, _, _, r => by cases r; exact ⟨_, .none, fun z => by cases z⟩
  | _, _, .bl b, _, _, r => by cases r; exact ⟨_, .bool b, fun z => by cases z⟩
  | _, _, .int i, _, _, r => by obtain ⟨t, rfl⟩ := r; exact ⟨_, .int i t, fun z => by cases z⟩
  | _, _, .str x, _, _, r => by obtain ⟨t, rfl⟩ := r; exact ⟨_, .str x t, fun z => by cases z⟩
  | _, _, .ty n, h, _, _ => by cases h
  | _, _, .ref a, h, _, _ => by cases h
  | _, _, .tup (a := a) h l, hd, _, r => by
    cases r
    obtain ⟨its, rv, ⟨o, ho, hc, n, hdt⟩, _⟩ := I.tuple h.sq
    obtain ⟨as, hr, hn⟩ := IsL.rdA I hsm l (by rw [D.da_tup] at hd; exact hd) rv
    exact ⟨_, Reads.tuple ho hc hdt hr, hn⟩
  | _, _, .lst (a := a) h l, hd, _, r => by
    cases r
    obtain ⟨its, rv, ⟨o, n, ho, hc, _, hdt⟩, _⟩ := I.list (SqL.of h.2)
    obtain ⟨as, hr, hn⟩ := IsL.rdA I hsm l (by rw [D.da_lst] at hd; exact hd) rv
    refine ⟨_, Reads.list ho hc hdt hr, fun z => ?_⟩
    rcases List.mem_cons.mp z with e | z
    · have h2 := h.2
      rw [← e, hsm] at h2
      cases h2
    · exact hn z
  | _, _, .dic (a := a) h l, hd, _, r => by
    cases r
    obtain ⟨_, ob, ho'⟩ := h
    obtain ⟨_, hs0, vs, kv, o, es, ep, ho, hx, hdt, _, hp, _⟩ := dk_rd I.hok (.inr ⟨ob, ho'⟩)
    obtain ⟨as, hr, hn, hk⟩ := IsK.rdA I hsm l (by simp only [D.da] at hd; exact hd) kv
    obtain ⟨r1, r2⟩ := pairs_reads hp hk hr
    refine ⟨_, Reads.dict ho hx.1 hdt r1 r2, fun z => ?_⟩
    rcases List.mem_append.mp z with z | z
    · rcases List.mem_cons.mp z with e | z
      · rw [← e] at hs0
        simp at hs0
      · cases z
    · exact hn z
theorem IsL.rdA {A : Addr → Prop} (I : Inv X pins σ H s) (hsm : H sysModules = none) : ∀ {vs : List V} {ds : List D}, IsL X.K A H vs ds → D.daL ds = true → ∀ {us : List Value}, Vals vs us → ∃ as, ReadsAll s.heap us (D.pyAL ds) as ∧ sysModules ∉ as
  | _, _, .nil, _, _, r => by cases r; exact ⟨_, .nil, fun z => by cases z⟩
  | _, _, .cons h t, hd, _, r => by
    cases r with
    | cons r1 r2 =>
      have hd' := Bool.and_eq_true_iff.mp (show (D.da _ && D.daL _) = true from hd)
      obtain ⟨as, h1, n1⟩ := Is.rdA I hsm h hd'.1 r1
      obtain ⟨bs, h2, n2⟩ := IsL.rdA I hsm t hd'.2 r2
      exact ⟨_, .cons h1 h2, fun z => (List.mem_append.mp z).elim n1 n2⟩
theorem IsK.rdA {A : Addr → Prop} (I : Inv X pins σ H s) (hsm : H sysModules = none) : ∀ {kvs : List (Key × V)} {kds : List (Key × D)}, IsK X.K A H kvs kds → D.daK kds = true → ∀ {vs : List (Key × Value)}, KV kvs vs → ∃ as, ReadsAll s.heap (vs.map (·.2)) ((D.pyAK kds).map (·.2)) as ∧ sysModules ∉ as ∧ (D.pyAK kds).map (·.1) = vs.map fun q => keyP q.1
  | _, _, .nil, _, _, r => by cases r; exact ⟨_, .nil, (fun z => by cases z), rfl⟩
  | _, _, .cons (k := k) h t, hd, _, r => by
    cases r with
    | cons r1 r2 =>
      have hd' := Bool.and_eq_true_iff.mp (show (D.da _ && D.daK _) = true from hd)
      obtain ⟨as, h1, n1⟩ := Is.rdA I hsm h hd'.1 r1.2
      obtain ⟨bs, h2, n2, h3⟩ := IsK.rdA I hsm t hd'.2 r2
      refine ⟨_, .cons h1 h2, fun z => (List.mem_append.mp z).elim n1 n2, ?_⟩
      show keyP k :: _ = keyP _ :: _
      rw [h3, ← r1.1]
end
end
/-- the base has sys.modules: nothing tracked stands there -/
def SysB (base : Heap) : Prop := ∃ mm, base.Ns sysModules mm
theorem Inv.sysm {X : Cx} {pins : List (Addr × Obj)} {σ : L2.St} {H : Hp} {s : Shared} (I : Inv X pins σ H s) (h : SysB X.base) : H sysModules = none := by
  obtain ⟨mm, o, es, ep, e, _⟩ := h
  exact (I.bs _ _ e).2
/-- what repr and str may be asked of -/
structure Rp (k n : Nat) (d : D) : Prop where
  da : d.da = true
  sh : d.pyA.showable = true
  dep : d.pyA.depth ≤ k
  len : d.pyA.shown.length ≤ n
def gcReprA : GC := fun ds M Q => match ds with
  | [d] => Rp 60 16000000 d ∧ Q (.str d.pyA.shown) M
  | _ => False
theorem gcReprA_1 {d : D} {M : Mem} {Q : D → Mem → Prop} : gcReprA [d] M Q = (Rp 60 16000000 d ∧ Q (.str d.pyA.shown) M) := propext Iff.rfl
theorem Is1.rdA {X : Cx} {pins : List (Addr × Obj)} {σ : L2.St} {H : Hp} {s : Shared} {A : Addr → Prop} {v : V} {d : D} {u : Value} (I : Inv X pins σ H s) (hsm : H sysModules = none) (i : Is1 X.K A H v d) (hd : d.da = true) (r : RelV v u) : ∃ as, Reads s.heap u d.pyA as ∧ sysModules ∉ as := by
  cases d with
  | tup ds =>
    obtain ⟨a, vs, rfl, h, l⟩ := i
    cases r
    obtain ⟨its, rv, ⟨o, ho, hc, n, hdt⟩, _⟩ := I.tuple h.sq
    obtain ⟨as, hr, hn⟩ := IsL.rdA I hsm l (by rw [D.da_tup] at hd; exact hd) rv
    exact ⟨_, Reads.tuple ho hc hdt hr, hn⟩
  | lst ds =>
    obtain ⟨a, vs, rfl, h, l⟩ := i
    cases r
    obtain ⟨its, rv, ⟨o, n, ho, hc, _, hdt⟩, _⟩ := I.list (SqL.of h)
    obtain ⟨as, hr, hn⟩ := IsL.rdA I hsm l (by rw [D.da_lst] at hd; exact hd) rv
    refine ⟨_, Reads.list ho hc hdt hr, fun z => ?_⟩
    rcases List.mem_cons.mp z with e | z
    · rw [← e, hsm] at h
      cases h
    · exact hn z
  | dic kds =>
    obtain ⟨a, kvs, rfl, h, l⟩ := i
    cases r
    obtain ⟨_, hs0, vs, kv, o, es, ep, ho, hx, hdt, _, hp, _⟩ := dk_rd I.hok h
    obtain ⟨as, hr, hn, hk⟩ := IsK.rdA I hsm l (by simp only [D.da] at hd; exact hd) kv
    obtain ⟨r1, r2⟩ := pairs_reads hp hk hr
    refine ⟨_, Reads.dict ho hx.1 hdt r1 r2, fun z => ?_⟩
    rcases List.mem_append.mp z with z | z
    · rcases List.mem_cons.mp z with e | z
      · rw [← e] at hs0
        simp at hs0
      · cases z
    · exact hn z
  | _ => exact Is.rdA I hsm (show Is X.K A H v _ from i) hd r
theorem ca_reprA {X : Cx} (hu : X.A.units + 66 < cLine) (hg : X.A.guards = some []) (hb : SysB X.base) : CaD X (.builtin "repr") gcReprA where
  ex := ⟨fun vs H Q => ∃ (v : V) (d : D) (A : Addr → Prop), vs = [v] ∧ Is1 X.K A H v d ∧ Rp 60 16000000 d ∧ Q (.str d.pyA.shown) H, fun pins s σ H vs us Q I r h => by
      obtain ⟨v, d, A, rfl, i, hp, q⟩ := h
      obtain ⟨u, rfl, rx⟩ := vals1 r
      have hz : d.pyA.shown.length ≤ sizeLine := by rw [sizeLine_eq]; have := hp.len; omega
      have hd := hp.dep
      obtain ⟨as, rd, ns⟩ := Is1.rdA I (Inv.sysm I hb) i hp.da rx
      have fin : ∀ a, u = .ref a → wpAny (model X.prog X.w) X.A (call (.builtin "repr") [u]) (EP X pins σ Q) X.xe s := fun a e => by
        subst e
        exact repr_of_reads' rd hp.sh (fun _ => ns) hg (by omega) (fun _ _ e => e) (fun h' u tk hk => ⟨.str _, H, I.kept hk, ⟨u, rfl⟩, q⟩) hz
      cases d with
      | non => rw [is1_non i] at rx; cases rx; exact PySem.P.repr_of_none ⟨.str _, H, I.tok _, ⟨_, rfl⟩, q⟩
      | bl b => rw [is1_bl i] at rx; cases rx; exact PySem.P.repr_of_bool ⟨.str _, H, I.tok _, ⟨_, rfl⟩, q⟩
      | int i' =>
        rw [is1_int i] at rx
        obtain ⟨t, rfl⟩ := rx
        exact PySem.P.repr_of_int (of_decide_eq_true hp.sh) ⟨.str _, H, I.tok _, ⟨_, rfl⟩, q⟩
      | str x =>
        rw [is1_str i] at rx
        obtain ⟨t, rfl⟩ := rx
        exact PySem.P.repr_of_str ⟨.str _, H, I.tok _, ⟨_, rfl⟩, q⟩ hz
      | ty n => cases hp.da
      | ref a => cases hp.da
      | tup ds =>
        obtain ⟨a, vs, rfl, _⟩ := i
        exact fin a rx
      | lst ds =>
        obtain ⟨a, vs, rfl, _⟩ := i
        exact fin a rx
      | dic ds =>
        obtain ⟨a, vs, rfl, _⟩ := i
        exact fin a rx, fun B E σ H r M O xs ds Q R ii q => by
    unfold gcReprA at q
    split at q
    · rename_i d
      obtain ⟨v, rfl, i⟩ := isXL1 ii
      exact ⟨v, d, _, rfl, i, q.1, fin_v R (.str _) q.2⟩
    · exact q.elim⟩
  mono := fun d M Q Q' h q => by
    unfold gcReprA at q ⊢
    split at q
    · exact ⟨q.1, h _ _ q.2⟩
    · exact q
/-- what str writes -/
def strT : D → PySem.Str
  | .str x => x
  | d => d.pyA.shown
def gcStrA : GC := fun ds M Q => match ds with
  | [d] => Rp 60 16000000 d ∧ Q (.str (strT d)) M
  | _ => False
theorem gcStrA_1 {d : D} {M : Mem} {Q : D → Mem → Prop} : gcStrA [d] M Q = (Rp 60 16000000 d ∧ Q (.str (strT d)) M) := propext Iff.rfl
end DL
set_option Elab.async false
set_option linter.all false
set_option maxRecDepth 100000
set_option maxHeartbeats 2000000
namespace DL
open PySem PySem.Spec PySem.W PyProof.Rows L2 LamX
/-- the tables, and sys.modules -/
def TBS (K : PySem.W.Frag) (mg : Str → Option Value) (base : Heap) (xs : List Str) : Prop := TBs K mg base xs ∧ SysB base
section
variable {fa : List He.Fa} {fn : List He.DefD} {ts : List He.Tab} {cs : List Ck} {w : World} {K : PySem.W.Frag} {mg : Str → Option Value} {P : Program} {base : Heap} {k : Nat} {ks : List AK}
theorem WorC.lawS_ {fs : FS} {N : List Str} {y : Str} {g : GS} {xs : List Str} (W : WorC fa fn ts cs w K mg) (i : Nat) {x : Str} {st : Stmt}
    (S : FnScope N [y] (defScope st)) (h : fn[i]? = some ⟨(x, none), x, x, defArgs st, defBody st, defScope st, [], []⟩ := by rfl) (h2 : fa[i]? = some (.glo x) := by rfl) (hk : ks.length = [y].length := by rfl)
    (hbd : ∀ (kV doc pm : Value) (an : Option Addr) (cdv ct : Value) (us : List Value), us.length = [y].length → bindArgs (PySem.W.fnOf x x (defArgs st) (defBody st) (defScope st) .none kV doc pm an cdv ct) ⟨us, []⟩ = pure ([y].zip us))
    (hbody : ∀ (base : Heap), TBS K mg base xs → ∀ (f : Addr) (cdv : Value) (hcd : tabIn K x = some (tC K x, tP K x) → cdv = .ref (tC K x)) (A : Around) (outer : List Env) (s : Shared) (H : Hp) (E : XK), Room k (A.deeper (envOfC x (defScope st) s.heap.objs.size f cdv)) → A.guards = some [] →
      DSs (cxOf (L2.CX P w) P w K mg base N x (defScope st) f cdv A outer s H E) (defBody st) g)
    (hfs : ∀ ds M Q X, fs ds M Q X → ds.length = ks.length → g { nx := fun _ M' => Q .non M', rt := Q } (entry N.length ks ds X) M) :
    ∃ f fd, mg x = some (.ref f) ∧ (∀ (s : Shared) (u : Value), BindsTo s fd ⟨[u], []⟩ [(y, u)]) ∧ ∀ base : Heap, TBS K mg base xs → FnG P w K mg base (k + 1) f fd [y] (toSp K ks fs) := by
  obtain ⟨fd, F⟩ := W.c.def_ i h
  have F1 : Fun K x x st (He.ga K x) fd := He5.fun_of F
  exact ⟨_, fd, W.glo i h2, fun s u => FunD.bindsA (ps := [y]) F hbd s [u] rfl, fun base tb => d_fnC F1 S hk (fun cdv e => hbody base tb (He.ga K x) cdv fun ht => by rw [← e]; exact tab_code F1 rfl ht) hfs⟩
end
theorem head_callS {P : Program} {w : World} {K : PySem.W.Frag} {mg mb : Str → Option Value} {k : Nat} {fa a : Addr} {fd : FuncData} {x : Str} {sp : Sp} {t : Shared} {us : List Value} {ns : List Int} {xs : List Str}
    (kin : K.In t.heap) (hg : t.heap.Ns mainGlobals mg) (hbi : t.heap.Ns builtinsNs mb) (hboot : ∀ y : Str, y ≠ "__name__" → mb y = bootBuiltins y) (hlim : t.heap.NoLimit) (hgen : t.gens = #[])
    (hT : ∀ y ∈ xs, t.heap.get? (tP K y) = some tab0 ∧ CodeHd t.heap (tC K y) (tP K y) ∧ K.lookup (tP K y) = none)
    (hbm : ∃ (bm : Addr) (ob : Obj), mg "__builtins__" = some (.ref bm) ∧ bm ≠ builtinsNs ∧ t.heap.get? bm = some ob ∧ ob.cls = .type "module" ∧ ob.dict = some builtinsNs ∧ ob.data = .plain)
    (hat : t.heap.get? a = some { cls := .type "list", data := .seq us.toArray }) (hin : IntsAre us ns) (hle : ns.length ≤ sizeLine) (room : Room k callerA)
    (hsy : ∃ mm, t.heap.Ns sysModules mm) (F : ∀ base : Heap, K.In base → base.Ns mainGlobals mg → TBS K mg base xs → FnG P w K mg base k fa fd [x] sp) (bnd : ∀ (s : Shared) (u : Value), BindsTo s fd ⟨[u], []⟩ [(x, u)])
    (hsp : ∀ H : Hp, OnlyT (xs.map (tP K)) H → SqL K H a (ns.map V.int) → sp [.ref a] H (fun v _ => v = .bl true) fun _ _ _ => False) :
    codeAny (model P w) callerA (.call (.ref fa) ⟨[.ref a], []⟩) (fun r s' => r = .ok (.ret (.bool true)) ∧ OldK t.heap s'.heap ∧ s'.os = t.os ∧ AllBare s'.gens) t := by
  have hv := vals_ints hin
  have hlen := hin.length
  have isT : ∀ b, b ∈ xs.map (tP K) → t.heap.get? b = some tab0 ∧ (∃ y ∈ xs, tP K y = b) := fun b hb => by
    obtain ⟨y, hy, e⟩ := List.mem_map.mp hb
    rw [← e]
    exact ⟨(hT y hy).1, y, hy, rfl⟩
  have aT : a ∉ xs.map (tP K) := fun z => by
    have q := (isT a z).1
    rw [hat] at q
    exact nomatch (show Data.seq us.toArray _ = Data.fields #[] from congrArg Obj.data (Option.some.inj q))
  have go : ∀ H : Hp, OnlyT (xs.map (tP K)) H → SqL K H a (ns.map V.int) → HOk P w H t.heap → (∀ b, H b ≠ none → b = a ∨ b ∈ xs.map (tP K)) → (H a ≠ none → K.lookup a = none) →
      codeAny (model P w) callerA (.call (.ref fa) ⟨[.ref a], []⟩) (fun r s' => r = .ok (.ret (.bool true)) ∧ OldK t.heap s'.heap ∧ s'.os = t.os ∧ AllBare s'.gens) t := by
    intro H only scr hok onlyA notK
    have down : ∀ {b : Addr} {o : Obj}, t.heap.get? b = some o → H b = none → (hidT t.heap H).get? b = some o := fun h1 h2 => hidT_get h1 h2
    -- what is neither a list nor an empty table is not tracked
    have free : ∀ {b : Addr} {o : Obj}, t.heap.get? b = some o → (∀ vs n, o.data ≠ .seq vs n) → o.data ≠ .fields #[] → H b = none := by
      intro b o h1 h2 h3
      cases q : H b with
      | none => rfl
      | some u =>
        rcases onlyA b (by rw [q]; simp) with z | z
        · rw [z, hat] at h1
          cases h1
          exact (h2 _ _ rfl).elim
        · rw [(isT b z).1] at h1
          cases h1
          exact (h3 rfl).elim
    have dictFree : ∀ {b : Addr} {o : Obj} {es : Array DictEntry} {ep : Nat}, t.heap.get? b = some o → o.data = .dict es ep → H b = none := fun h1 h2 =>
      free h1 (fun vs n z => by rw [h2] at z; cases z) fun z => by rw [h2] at z; cases z
    have nsDown : ∀ {b : Addr} {m : Str → Option Value}, t.heap.Ns b m → (hidT t.heap H).Ns b m := fun {b m} ⟨o, es, ep, h1, h2, h3⟩ => ⟨o, es, ep, down h1 (dictFree h1 h2), h2, h3⟩
    have kinB : K.In (hidT t.heap H) := fun b o h1 => down (kin b o h1) (by
      cases q : H b with
      | none => rfl
      | some u =>
        rcases onlyA b (by rw [q]; simp) with z | z
        · subst z
          rw [notK (by rw [q]; simp)] at h1
          cases h1
        · obtain ⟨y, hy, e⟩ := (isT b z).2
          rw [← e, (hT y hy).2.2] at h1
          cases h1)
    have md : Mod K mg (hidT t.heap H) := ⟨kinB, nsDown hg, ⟨mb, nsDown hbi, hboot⟩, let ⟨mc, q1, q2⟩ := hlim; ⟨mc, nsDown q1, q2⟩⟩
    have env : Env0 P w K mg (hidT t.heap H) callerA [] t H := ⟨rfl, md, fun b o h1 => of_hidT h1, Nat.le_of_eq (hidT_size _ _), trivial, fun b hb => (List.not_mem_nil (show b ∈ ([] : List Addr) from hb)).elim, hok, .of_eq hgen⟩
    have tb : TBs K mg (hidT t.heap H) xs := fun y hy => by
      obtain ⟨eT, hd, _⟩ := hT y hy
      refine ⟨?_, ?_, fun z => ?_⟩
      · obtain ⟨o, vs, file, tf, flags, tg, inF, text, tt, e1, r1, r2, r3, r4, r5, r6, r7, r8, hne⟩ := hd
        refine ⟨o, vs, file, tf, flags, tg, inF, text, tt, down e1 (free e1 (fun vs n z => ?_) fun z => ?_), r1, r2, r3, r4, r5, r6, r7, r8, hne⟩
        · rw [r2] at z
          cases z
        · rw [r2] at z
          cases z
          simp at r3
      · obtain ⟨bm, ob, b1, b2, b3, b4, b5, b6⟩ := hbm
        refine ⟨bm, ob, b1, b2, fun z => ?_, fun z => ?_, down b3 (free b3 (fun vs n z => by rw [b6] at z; cases z) fun z => by rw [b6] at z; cases z), b4, b5, b6⟩
        · obtain ⟨o, es, ep, e, hd2, _⟩ := hg
          rw [z, e] at b3
          cases b3
          rw [hd2] at b6
          cases b6
        · rw [z, eT] at b3
          cases b3
          cases b6
      · obtain ⟨o, es, ep, e, hd2, _⟩ := hg
        rw [z, eT] at e
        cases e
        cases hd2
    refine codeAny_mono ((F _ kinB (nsDown hg) ⟨tb, let ⟨mm, z⟩ := hsy; ⟨mm, nsDown z⟩⟩).run callerA [] t H ⟨[.ref a], []⟩ [.ref a] [.ref a] _ _ room rfl env (bnd t (.ref a)) (.cons rfl .nil) (hsp H only scr)) fun r s' h => ?_
    cases r with
    | error e => exact (cx_never h).elim
    | ok fl =>
      cases fl with
      | next => exact False.elim h
      | brk => exact False.elim h
      | cont => exact False.elim h
      | ret u =>
        obtain ⟨v, H', os, bare, un, hok', rv, q⟩ := h
        obtain rfl : v = .bl true := q
        obtain rfl : u = Value.bool true := rv
        have same : ∀ b o, b ∉ xs.map (tP K) → t.heap.get? b = some o → s'.heap.get? b = some o := fun b o nb h1 => by
          cases q : H b with
          | none => exact un.keep b o h1 q (by intro z; exact (List.not_mem_nil (show b ∈ ([] : List Addr) from z)).elim) (by simp)
          | some u =>
            rcases (only b).2 nb with z | ⟨ob, ys, z⟩
            · rw [q] at z
              cases z
            · have z2 := un.frzs b ob _ z
              obtain ⟨q1, _⟩ := hok b _ z
              obtain ⟨q2, _⟩ := hok' b _ z2
              rw [h1] at q1
              cases q1
              exact q2
        have grown : ∀ b, b ∈ xs.map (tP K) → ∃ more : Array Value, s'.heap.get? b = some { cls := .none, data := .fields more } := fun b hb => by
          obtain ⟨more, z⟩ := un.tbls b #[] ((only b).1 hb)
          exact ⟨_, hok' b _ z⟩
        refine ⟨rfl, ⟨fun b o e => ?_, fun b o e => ?_⟩, os, bare⟩
        · by_cases hb : b ∈ xs.map (tP K)
          · obtain ⟨more, hm⟩ := grown b hb
            obtain ⟨y, hy, eb⟩ := (isT b hb).2
            rw [(isT b hb).1] at e
            cases e
            have hd := (hT y hy).2.1
            have he := (hT y hy).1
            rw [eb] at hd he
            exact .inr (.inl ⟨(hd.tab he).isCodeTable, rfl, #[], more, rfl, by rw [Array.empty_append]; exact hm⟩)
          · exact .inl (same b o hb e)
        · by_cases hb : b ∈ xs.map (tP K)
          · obtain ⟨more, hm⟩ := grown b hb
            exact ⟨_, hm⟩
          · exact ⟨o, same b o hb e⟩
  cases hk : K.lookup a with
  | some o =>
    have h1 := kin a o hk
    rw [hat] at h1
    cases h1
    refine go (fun b => if b ∈ xs.map (tP K) then some (.tbl #[]) else none) (fun b => ⟨fun hb => if_pos hb, fun hb => .inl (if_neg hb)⟩) (.inr ⟨_, us.toArray, _, hk, rfl, rfl, rfl, by rw [List.size_toArray, hlen]; exact hle, by simpa using hv⟩) (fun b u z => ?_) (fun b z => ?_) fun z => absurd (show (if a ∈ xs.map (tP K) then some (HO.tbl #[]) else none) = none from if_neg aT) z
    · by_cases hb : b ∈ xs.map (tP K)
      · have z' := (if_pos hb).symm.trans z
        cases z'
        exact (isT b hb).1
      · have z' := (if_neg hb).symm.trans z
        cases z'
    · by_cases hb : b ∈ xs.map (tP K)
      · exact .inr hb
      · exact absurd (if_neg hb) z
  | none =>
    let H1 : Hp := fun b => if b = a then some (.frz { cls := .type "list", data := .seq us.toArray } (.lst (ns.map V.int))) else if b ∈ xs.map (tP K) then some (.tbl #[]) else none
    have h0 : H1 a = some (.frz { cls := .type "list", data := .seq us.toArray } (.lst (ns.map V.int))) := if_pos rfl
    have h2 : ∀ b, b ≠ a → b ∉ xs.map (tP K) → H1 b = none := fun b hb hb2 => (if_neg hb).trans (if_neg hb2)
    have h3 : ∀ b, b ∈ xs.map (tP K) → H1 b = some (.tbl #[]) := fun b hb => (if_neg fun z => aT (by rw [← z]; exact hb)).trans (if_pos hb)
    refine go H1 (fun b => ⟨h3 b, fun hb2 => ?_⟩) (.inl (.inr ⟨_, h0⟩)) (fun b u z => ?_) (fun b z => ?_) fun _ => hk
    · by_cases hb : b = a
      · subst hb
        exact .inr ⟨_, _, h0⟩
      · exact .inl (h2 b hb hb2)
    · by_cases hb : b = a
      · subst hb
        rw [h0] at z
        cases z
        exact ⟨hat, by rw [List.length_map]; exact hle, us, _, hv, hat⟩
      · by_cases hb2 : b ∈ xs.map (tP K)
        · rw [h3 b hb2] at z
          cases z
          exact (isT b hb2).1
        · rw [h2 b hb hb2] at z
          cases z
    · by_cases hb : b = a
      · exact .inl hb
      · by_cases hb2 : b ∈ xs.map (tP K)
        · exact .inr hb2
        · exact absurd (h2 b hb hb2) z
/-- the law over a head by facts, with tables -/
theorem walk_ofS {l : PySem.W.OpenLaw} {n k : Nat} {q : Program} {loose : List Str} {XP : (Str → Option Value) → Heap → Prop} {YP : World → Heap → Prop} {d : DefRec} {x : Str} (xs : List Str)
    (hn : l.most = some n) (hn2 : n ≤ sizeLine) (hdf : d.params.defaults = []) (hr : Room k callerA) (himp : importsNone q = true) (hrec : xs.all (fun y => ((recsOf q).find? fun e => e.name == y).isSome) = true)
    (F : ∀ (w : World) (mg : Str → Option Value) (fa : Addr) (h : Heap), YP w h → h.Ns mainGlobals mg → mg d.name = some (.ref fa) →
      ∃ (K : PySem.W.Frag) (fd : FuncData) (sp : Sp), K.In h ∧ (∀ y ∈ xs, tabIn K y = some (tC K y, tP K y) ∧ K.lookup (tP K y) = none) ∧ (∀ (s : Shared) (u : Value), BindsTo s fd ⟨[u], []⟩ [(x, u)]) ∧
        (∀ (H : Hp) (a : Addr) (ns : List Int), ns.length ≤ n → OnlyT (xs.map (tP K)) H → SqL K H a (ns.map V.int) → sp [.ref a] H (fun v _ => v = .bl true) fun _ _ _ => False) ∧
        ∀ base : Heap, K.In base → base.Ns mainGlobals mg → TBS K mg base xs → FnG l.prog w K mg base k fa fd [x] sp) :
    PySem.W.WalkO q loose XP YP l.row.toRowW d [] (fun f vs => PySem.call f vs) := by
  refine Att.attach_call hn hdf fun w s0 s1 mg mb fa o pm cd doc a us ns gr Y _ _ _ hmg hobj hints hlen hg => ?_
  obtain ⟨K, fd, sp, kin, ht, hb, hsp, hF⟩ := F w mg fa _ Y gr.T.g hmg
  refine head_callS kin gr.T.g gr.T.b gr.T.builtins gr.T.nolimit hg (fun y hy => ?_) gr.T.bmain hobj hints (Nat.le_trans hlen hn2) hr (let ⟨mm, z, _⟩ := (gr.T.seer himp).mods; ⟨mm, z⟩) hF hb fun H h1 h2 => hsp H a ns hlen h1 h2
  have hr' := List.all_eq_true.mp hrec y hy
  obtain ⟨dd, hd⟩ := Option.isSome_iff_exists.mp hr'
  obtain ⟨h1, h2⟩ := tab_of gr.T kin hd (ht y hy).1
  exact ⟨h2, h1, (ht y hy).2⟩
end DL
set_option Elab.async false
set_option linter.all false
set_option maxRecDepth 100000
set_option maxHeartbeats 2000000
namespace PySem.SeqAt
open AutoSeq1 (wpAny_loadPart')
open MeetsSeq
end PySem.SeqAt
namespace PySem.SeqAt
end PySem.SeqAt
namespace DL
open PySem PySem.Spec PySem.W PyProof.Rows L2
/-- the answer of d == j -/
def D.eqI (j : Int) : D → Bool
  | .int i => decide (i = j)
  | .bl b => decide ((if b then 1 else 0) = j)
  | _ => false
def D.isI : D → Bool
  | .ty _ => false
  | .ref _ => false
  | _ => true
/-- == an int behind it, whatever stands ahead -/
def goEqI : GO := fun d e M Q => match e with
  | .int j => d.isI = true ∧ Q (.bl (d.eqI j)) M
  | _ => False
theorem goEqI_x {d : D} {j : Int} {M : Mem} {Q : D → Mem → Prop} : goEqI d (.int j) M Q = (d.isI = true ∧ Q (.bl (d.eqI j)) M) := propext Iff.rfl
end DL
namespace DL
open PySem PySem.Spec PySem.W PyProof.Rows L2
def bI (b : Bool) : Int := if b = true then 1 else 0
/-- .. and what a rule of numbers served ahead -/
def goB (f : Int → Int → Int) (g : GO) : GO := fun d e M Q => match d, e with
  | .bl b, .int j => Q (.int (f (bI b) j)) M
  | .int i, .bl b => Q (.int (f i (bI b))) M
  | d, e => g d e M Q
def goAddB : GO := goB (· + ·) (goI (fun _ _ => True) fun i j => .int (i + j))
def goSubB : GO := goB (· - ·) (goI (fun _ _ => True) fun i j => .int (i - j))
def goMulB : GO := goB (· * ·) (goI CMul fun i j => .int (i * j))
section
variable {i j : Int} {b : Bool} {M : Mem} {Q : D → Mem → Prop}
theorem goAddB_ii : goAddB (.int i) (.int j) M Q = Q (.int (i + j)) M := propext ⟨fun h => h.2, fun h => ⟨trivial, h⟩⟩
theorem goAddB_bi : goAddB (.bl b) (.int j) M Q = Q (.int (bI b + j)) M := propext Iff.rfl
theorem goAddB_ib : goAddB (.int i) (.bl b) M Q = Q (.int (i + bI b)) M := propext Iff.rfl
theorem goSubB_ii : goSubB (.int i) (.int j) M Q = Q (.int (i - j)) M := propext ⟨fun h => h.2, fun h => ⟨trivial, h⟩⟩
theorem goSubB_bi : goSubB (.bl b) (.int j) M Q = Q (.int (bI b - j)) M := propext Iff.rfl
theorem goSubB_ib : goSubB (.int i) (.bl b) M Q = Q (.int (i - bI b)) M := propext Iff.rfl
theorem goMulB_ii : goMulB (.int i) (.int j) M Q = (CMul i j ∧ Q (.int (i * j)) M) := propext Iff.rfl
theorem goMulB_bi : goMulB (.bl b) (.int j) M Q = Q (.int (bI b * j)) M := propext Iff.rfl
theorem goMulB_ib : goMulB (.int i) (.bl b) M Q = Q (.int (i * bI b)) M := propext Iff.rfl
end
def guNegB : GU := fun d M Q => match d with
  | .int i => Q (.int (-i)) M
  | .bl b => Q (.int (-(bI b))) M
  | _ => False
theorem guNegB_i {i : Int} {M : Mem} {Q : D → Mem → Prop} : guNegB (.int i) M Q = Q (.int (-i)) M := propext Iff.rfl
theorem guNegB_b {b : Bool} {M : Mem} {Q : D → Mem → Prop} : guNegB (.bl b) M Q = Q (.int (-(bI b))) M := propext Iff.rfl
end DL
set_option Elab.async false
set_option linter.all false
set_option maxRecDepth 100000
set_option maxHeartbeats 2000000
namespace DL
open PySem PySem.Spec PySem.W PyProof.Rows L2
def repS (x : PySem.Str) (n : Int) : PySem.Str := ⟨(List.replicate n.toNat x.cps).foldl (· ++ ·) #[]⟩
def CMulS (x : PySem.Str) (n : Int) : Prop := 2 ≤ n ∧ n ≤ 1000000 ∧ 1 ≤ x.length ∧ x.length * n.toNat ≤ 1000000
def goMulS : GO := fun d e M Q => match d, e with
  | .str x, .int n => CMulS x n ∧ Q (.str (repS x n)) M
  | _, _ => False
theorem goMulS_x {x : PySem.Str} {n : Int} {M : Mem} {Q : D → Mem → Prop} : goMulS (.str x) (.int n) M Q = (CMulS x n ∧ Q (.str (repS x n)) M) := propext Iff.rfl
/-- int(text) -/
def gcIntS : GC := fun ds M Q => match ds with
  | [.str x] => ∃ n, PySem.intText? x = some n ∧ x.length ≤ 640 ∧ Q (.int n) M
  | _ => False
theorem gcIntS_1 {x : PySem.Str} {M : Mem} {Q : D → Mem → Prop} : gcIntS [.str x] M Q = ∃ n, PySem.intText? x = some n ∧ x.length ≤ 640 ∧ Q (.int n) M := propext Iff.rfl
end DL
set_option Elab.async false
set_option linter.all false
set_option maxRecDepth 100000
set_option maxHeartbeats 2000000
namespace DL
open PySem PySem.Spec PySem.W PyProof.Rows L2 LamX
section
variable {X : Cx} {es : List Expr} {gs : GA} {gb : GE} {n : Nat} {x a : Str} {ks : List AK} {fs : LmT → FS} {pf lpos pos : Pos} {params : Arguments} {body : Expr} {scope : Scope} {q : Str} {c P : Addr}
theorem de_callG (F : DefL X.prog X.w X.K X.mg X.base (n + 2) x a ks fs) (hr : Room (n + 2) X.A) (hgd : X.A.guards = some []) (TB : TabB X.base X.mg c P) (hcode : X.env.code = .ref c) (L : LamS X.env.scope scope) (ha : DAk false X ks es gs)
    (hbody : ∀ (A : Around) (outer : List Env) (s : Shared) (H : Hp) (Ex : XK) (f c' : Addr), Room n (A.deeper (lamEnv X scope s.heap.objs.size f c')) → A.guards = some [] → DE true false (lamCx X A outer s H Ex scope f c') body gb)
    (hbind : ∀ (q : Str) (cl : List (Str × Addr)) (pm cv ctv : Value), bindArgs (PySem.W.kla_fn "<lambda>" q params body scope cl pm cv ctv) ⟨[], []⟩ = pure [])
    (hg : Gl X x := by rfl) (hq : X.env.qual ++ "<lambda>" = q := by rfl) (hv : vks ks = true := by rfl) (hdef : defaultsOf params X.env = ([], []) := by rfl) (hdb : (x == ("__debug__" : Str)) = false := by decide)
    (he : starEach (.Lambda params body scope lpos :: es) X.env = (false, eval (.Lambda params body scope lpos) X.env) :: starEach es X.env := by rfl) (hpl : (backTo pos (starEach es X.env)).any (·.1) = false := by rfl) :
    DE true false X (.Call (.Name x pf) (.Lambda params body scope lpos :: es) [] pos) (gCallL P q fs gb gs) := by
  have hgm := (hbody X.A [] {} (fun _ => none) (fun _ _ _ => True) 0 0 (roomDown (hr.deeper _) (by omega)) hgd).mono
  refine ⟨⟨fun pins s σ H Q I ⟨B, E, r, M, O, R, em, qq⟩ => ?_⟩, fun r M Q Q' h q => ⟨q.1, ha.mono _ _ _ _ (fun ds M1 q1 => F.mo _ (gLamT_mono hgm r) _ _ _ _ _ _ (fun d M' q2 => h _ _ q2) (fun C M' q2 => q2) q1) q.2⟩⟩
  obtain ⟨g, Ng, qg, sg, cdg, FL, hm, hk⟩ := F.ex
  obtain ⟨_, _, ps, hP, ht, old⟩ := R.m.mem P _ em
  refine wpAny_Call_Name_kw (ld_glob I hg hm ?_ hdb)
  refine PySem.W.callWith_K (h₀ := X.base) I.ok.mod.kin hk ?_ he hpl
  rw [he]
  show wpAny _ _ (spliced ((false, eval (.Lambda params body scope lpos) X.env) :: backTo pos (starEach es X.env))) _ _ s
  refine Calls.spliced_cons (lam_new I TB hcode hP ht (fun pos cv z => let ⟨c, e1, e2, _⟩ := old pos cv z; ⟨c, e1, by rw [hq]; exact e2⟩) hdef (L.has I.ok) fun f c' pm ctv H1 s1 I1 hfr t => ?_)
  rw [hq] at t
  obtain ⟨R1, st1, nc⟩ := R.tabled em hP ht old t
  have hc1 := t.co
  have hq2 := ha.on R1 qq (Q := fun vs H2 => ∃ ds M2 O2, Rep X B E σ H2 r M2 O2 ∧ ArgsX X.K (Av B M2 O2) (Mut M2 O2) H2 ks vs ds ∧ Step (Mut M O) H1 (Mut M2 O2) H2 ∧ fs (gLamT gb r) ds M2 (LE true false X B E σ r H M O Q) r.ex) fun ds M2 vs H2 O2 k2 R2 l2 i2 =>
    ⟨ds, M2, O2, R2, i2, l2.2, k2⟩
  refine thn (ha.run.run pos _ s1 σ H1 _ I1 hq2) fun us s2 ⟨vs, H2, I2, rv, ds, M2, O2, R2, i2, st2, k2⟩ => ⟨I2.kIn, ?_⟩
  have hf := ClX.pin_at I2
  have hfn := ClX.pin_un I2
  have J := ClX.unpin I2
  have sA2 : Step (Av B M O) H1 (Av B M2 O2) H2 := fun b o e nb =>
    have n1 : ¬ B b := fun z => nb (.inl z)
    have ⟨h1, h2⟩ := st2 b o e fun z => nb (.inr z)
    ⟨h1, fun z => z.elim n1 h2⟩
  have hc2 := sA2 c' _ hc1 nc
  have rc : codeAny (model X.prog X.w) X.A (.call (.ref g) ⟨.ref f :: us, []⟩) (CR (L2.CX X.prog X.w) X.stack X.prog X.w H2 s2 Q (xk E.W)) s2 := by
    refine FL.run X.A X.stack s2 H2 ⟨f, Av B M2 O2, H2, gLamT gb r⟩ _ us vs (Bs B O2) M2 (drops O2) ds Q (xk E.W) hr hgd J.env0 rv ?_ R2.m.below (drops_flds O2) (by rw [av_bs]; exact argsOkM (fun b z => mut_drops b z) hv i2) (by rw [av_bs]) rfl (gLamT_mono hgm r)
      (lam_pr (σ := σ) (q := q) R2.sl hc2.1 hc2.2 hgm) ?_ ?_
    · have hlen := (argsOkM (K := X.K) (fun b (z : Mut M2 (drops O2) b) => mut_drops b z) hv i2).len
      rw [← rv.length, hlen]
    · exact lam_act J L hf hfn hfr hq R2.len (hbind _ _ _ _ _) hgd (hr.deeper _) fun A outer s H Ex hr' hg' => hbody A outer s H Ex _ _ hr' hg'
    · refine F.mo _ (gLamT_mono hgm r) _ _ _ _ _ _ (fun d M' qq v H' O' h1 _ h3 h4 => ?_) (fun C M' qq H' O' h1 _ h3 => ?_) k2
      · obtain ⟨R', s', e'⟩ := R2.called h1 h3
        refine qq v H' _ R' ⟨fun z => (nomatch z), (st1.trans st2).trans s'⟩ ?_
        rw [e']
        exact h4
      · obtain ⟨R', s', e'⟩ := R2.called h1 h3
        refine ⟨C, rfl, rfl, R2.exc C M' H' _ (R'.m.subB R2.sub) R'.ent ?_⟩
        rw [← R2.xe]
        exact qq
  refine wpAny_call (codeAny_mono rc fun r s' hq => ?_)
  cases r with
  | error e => exact R2.ps pins σ H2 s2 e s' J hq
  | ok fl =>
    cases fl with
    | ret u => exact J.after hq
    | next => exact hq.elim
    | brk => exact hq.elim
    | cont => exact hq.elim
end
end DL
set_option Elab.async false
set_option linter.all false
set_option maxRecDepth 100000
set_option maxHeartbeats 2000000
namespace DL
open PySem PySem.Spec PySem.W PyProof.Rows L2
section
variable {X : Cx} {w p : Bool} {b : Expr} {gb : GE} {pos : Pos}
def gIxO (i : Nat) (gb : GE) : GE := fun r M Q => match r.sl[i]? with
  | some (.o (.lst xs)) => gb r M fun e M1 => match e with
    | .int j => match atI xs j with
      | some z => Q z M1
      | none => False
    | _ => False
  | _ => False
def gFaddO (i : Nat) (gb : GE) : GF := fun r M Q => match r.sl[i]? with
  | some (.o (.lst xs)) => gb r M fun e M1 => match e with
    | .lst ys => xs.length + ys.length ≤ sizeLine ∧ Q (.lst (xs ++ ys)) M1
    | _ => False
  | _ => False
theorem e_gIxO {i : Nat} {gb : GE} {r : DL.Fr} {M : Mem} {Q : D → Mem → Prop} : gIxO i gb r M Q = (match r.sl[i]? with
  | some (.o (.lst xs)) => gb r M fun e M1 => match e with
    | .int j => match atI xs j with
      | some z => Q z M1
      | none => False
    | _ => False
  | _ => False) := propext Iff.rfl
theorem e_gFaddO {i : Nat} {gb : GE} {r : DL.Fr} {M : Mem} {Q : OM → Mem → Prop} : gFaddO i gb r M Q = (match r.sl[i]? with
  | some (.o (.lst xs)) => gb r M fun e M1 => match e with
    | .lst ys => xs.length + ys.length ≤ sizeLine ∧ Q (.lst (xs ++ ys)) M1
    | _ => False
  | _ => False) := propext Iff.rfl
end
end DL
set_option Elab.async false
set_option linter.all false
set_option maxRecDepth 100000
set_option maxHeartbeats 2000000
namespace DL
open PySem PySem.Spec PySem.W PyProof PyProof.Rows L2
def SqK (b : Bool) (K : PySem.W.Frag) (H : Hp) (a : Addr) (xs : List V) : Prop := match b with
  | true => SqT K H a xs
  | false => SqL K H a xs
def ItK (b : Bool) (h : Heap) (it l : Addr) (i : Nat) : Prop := match b with
  | true => h.IsTupleIter it l i
  | false => h.IsListIter it l i
def AtK (b : Bool) (h : Heap) (l : Addr) (us : Array Value) : Prop := match b with
  | true => h.IsTuple l us
  | false => h.IsList l us
section
variable {prog : Program} {w : World} {A : Around} {h h' : Heap} {it l a : Addr} {i : Nat} {us : Array Value} {b : Bool}
theorem ItK.at (z : ItK b h it l i) (k : ∀ o, h.get? it = some o → h'.get? it = some o) : ItK b h' it l i := by
  cases b with
  | true => exact Heap.IsTupleIter.at z k
  | false => exact Heap.IsListIter.at z k
theorem ItK.obj (z : ItK b h it l i) : ∃ o, h.get? it = some o ∧ ∀ v, o.data ≠ .cell v := by
  cases b with
  | true =>
    obtain ⟨o, e, _, d⟩ := z
    exact ⟨o, e, fun v q => by rw [d] at q; cases q⟩
  | false =>
    obtain ⟨o, e, _, d⟩ := z
    exact ⟨o, e, fun v q => by rw [d] at q; cases q⟩
theorem AtK.at (z : AtK b h l us) (k : ∀ o, h.get? l = some o → h'.get? l = some o) : AtK b h' l us := by
  cases b with
  | true => exact Heap.IsTuple.at z k
  | false => exact Heap.IsList.at z k
theorem AtK.lt (z : AtK b h l us) : l < h.objs.size := by
  cases b with
  | true => obtain ⟨o, e, _⟩ := z; exact Heap.lt_size e
  | false => obtain ⟨o, e, _⟩ := z; exact Heap.lt_size e
end
/-- zip of two, each a list or a tuple -/
def giZipX (gs : GA) : GI := fun r M Q => gs r M fun ds M1 => match ds with
  | [.lst xs, .lst ys] => Q (zipD xs ys) M1
  | [.tup xs, .tup ys] => Q (zipD xs ys) M1
  | [.tup xs, .lst ys] => Q (zipD xs ys) M1
  | [.lst xs, .tup ys] => Q (zipD xs ys) M1
  | _ => False
def MtK (b : Bool) (K : PySem.W.Frag) (A : Addr → Prop) (H : Hp) (a : Addr) (vs : List V) : Prop := match b with
  | true => TupAt K A H a vs
  | false => LstAt A H a vs
section
variable {X : Cx} {B A A' : Addr → Prop} {H H' H1 : Hp} {M1 : Mem} {O1 : Own} {a b : Addr} {b1 b2 : Bool} {vs us : List V} {ds es : List D}
theorem MtK.step {K : PySem.W.Frag} (s : Step A H A' H') (h : MtK b1 K A H a vs) : MtK b1 K A' H' a vs := by
  cases b1 with
  | true => exact TupAt.step s h
  | false => exact LstAt.step s h
theorem MtK.sq {K : PySem.W.Frag} (h : MtK b1 K A H a vs) : SqK b1 K H a vs := by
  cases b1 with
  | true => exact TupAt.sq h
  | false => exact SqL.of h.2
end
section
variable {X : Cx} {p : Bool} {a b : Expr} {gs : GA} {pos : Pos}
def zipXK (ds : List D) (M : Mem) (Q : List D → Mem → Prop) : Prop := match ds with
  | [.lst xs, .lst ys] => Q (zipD xs ys) M
  | [.tup xs, .tup ys] => Q (zipD xs ys) M
  | [.tup xs, .lst ys] => Q (zipD xs ys) M
  | [.lst xs, .tup ys] => Q (zipD xs ys) M
  | _ => False
theorem giZipX_k {gs : GA} {r : DL.Fr} {M : Mem} {Q : List D → Mem → Prop} : giZipX gs r M Q = gs r M fun ds M1 => zipXK ds M1 Q := by
  unfold giZipX
  congr 1
theorem zipXK_ll {xs ys : List D} {M : Mem} {Q : List D → Mem → Prop} : zipXK [.lst xs, .lst ys] M Q = Q (zipD xs ys) M := propext Iff.rfl
theorem zipXK_tt {xs ys : List D} {M : Mem} {Q : List D → Mem → Prop} : zipXK [.tup xs, .tup ys] M Q = Q (zipD xs ys) M := propext Iff.rfl
theorem zipXK_tl {xs ys : List D} {M : Mem} {Q : List D → Mem → Prop} : zipXK [.tup xs, .lst ys] M Q = Q (zipD xs ys) M := propext Iff.rfl
theorem zipXK_lt {xs ys : List D} {M : Mem} {Q : List D → Mem → Prop} : zipXK [.lst xs, .tup ys] M Q = Q (zipD xs ys) M := propext Iff.rfl
end
end DL
set_option Elab.async false
set_option linter.all false
set_option maxRecDepth 100000
set_option maxHeartbeats 2000000
namespace DL
open PySem PySem.Spec PySem.W PyProof PyProof.Rows L2
def rInTD (neg : Bool) (K : PySem.W.Frag) : R2 := fun x y H Q => ∃ (d : PyData) (ds : List PyData), Dp K H x d ∧ Dp K H y (.tuple ds) ∧ SeqAt.shaped d = true ∧ SeqAt.shaped (.tuple ds) = true ∧ Q (.bl (xor neg (ds.any fun z => PyData.eqv z d))) H
section
variable {X : Cx}
theorem op_notInTD (hu : X.A.units + 65 < cLine) : OpR X (compareOp .NotIn) (rInTD true X.K) := by
  intro pins s σ H x y v u Q I rx ry ⟨d, ds, hd, he, sd, se, q⟩
  obtain ⟨_, r1⟩ := Dp.reads I d x v hd rx
  obtain ⟨_, r2⟩ := Dp.reads I (.tuple ds) y u he ry
  rw [Bool.true_xor] at q
  exact SeqAt.notIn_tuple_reads r2 r1 (SeqAt.canLay_of_shaped se) (SeqAt.canLay_of_shaped sd) (room_in_shaped sd hu) ⟨.bl _, H, I, rfl, q⟩
def goInT (neg : Bool) : GO := fun d e M Q => match e with
  | .tup ds => (d.ok = true ∧ D.ok (.tup ds) = true) ∧ Q (.bl (xor neg (ds.any fun z => z.eqv d))) M
  | _ => False
theorem goInT_mono {neg : Bool} : ∀ d e M Q Q', (∀ d M', Q d M' → Q' d M') → goInT neg d e M Q → goInT neg d e M Q' := fun d e M Q Q' h q => by
  unfold goInT at q ⊢
  split at q
  · exact ⟨q.1, h _ _ q.2⟩
  · exact q.elim
theorem od_notinT (hu : X.A.units + 65 < cLine) : OpD X (compareOp .NotIn) (goInT true) where
  ex := ⟨_, op_notInTD hu, fun B E σ H r M O x y d e Q R i1 i2 q => by
    unfold goInT at q
    split at q
    · rename_i ds
      have q2 := q.2
      rw [← any_py] at q2
      exact ⟨d.py, D.pyL ds, i1.dp (ok_and q.1.1).1, i2.dp (ok_and q.1.2).1, (ok_and q.1.1).2, (ok_and q.1.2).2, fin_v R (.bl _) q2⟩
    · exact q.elim⟩
  mono := goInT_mono
theorem e_gtLst (gts : GGs) (n : Nat) : ∀ d r M Q, gtLst gts n d r M Q = (match d with
  | .lst ds => ds.length = n ∧ gts ds r M Q
  | _ => False) := fun _ _ _ _ => propext Iff.rfl
theorem goInT_tup {neg : Bool} {d : D} {ds : List D} {M : Mem} {Q : D → Mem → Prop} : goInT neg d (.tup ds) M Q = ((d.ok = true ∧ D.ok (.tup ds) = true) ∧ Q (.bl (xor neg (ds.any fun z => z.eqv d))) M) := propext Iff.rfl
end
end DL
set_option Elab.async false
set_option linter.all false
set_option maxRecDepth 100000
set_option maxHeartbeats 2000000
namespace DL
open PySem PySem.Spec PySem.W PyProof PyProof.Rows L2
end DL
namespace LW
open PySem PySem.Spec PySem.W PyProof.Rows L2 DL
local macro_rules | `(tactic| wp_walk) => `(tactic| simp only [gSeq, gSet, gRet, gRetN, gNext, gIfS, gDrop, gOwn, gApp, gExt, gForM, gLcM, gCnt, gTryV, gTryE, gxP, gxM, DL.Fr.mute, gIPut, gFrz, frz, gAsg, gPar, gPar3, gAug, gRaise, gRetM, gSetM, gMPut, gMGet, g1, g2, gC, gV, gVw, gB, gAnd, gOr, gNot, gNotV, gIf, DL.gCons, DL.gNil, DL.gTup, DL.gLst, gFl, gFd, gCa, gLenS, gPart, gNoP, gDisp, gPcons, gPnil, gtN, gtTup, gtCons, gtNil, gYes, gFor, gLc, giS, gCallP, gCallM, gScr, entry, aSls, aSl, DL.Fr.set, OM.d, wipeF, wipeS, keyD, List.length_cons, List.length_nil, List.cons_append, List.nil_append, List.append_nil, List.replicate_succ, List.replicate_zero, List.getElem?_cons_zero, List.getElem?_cons_succ, List.getElem?_nil, List.set_cons_zero, List.set_cons_succ, Nat.reduceAdd, Nat.reduceSub, if_true, if_false, ite_true, ite_false, reduceIte, Bool.false_eq_true, Bool.not_true, Bool.not_false, List.all_cons, List.all_nil, Bool.and_true, true_and, and_true, List.map_cons, List.map_nil, gIdx, ixT_ints, intsOf_map, Int.reduceToNat, Option.some.injEq, exists_eq_left', goAdd_int, goAdd_str, goAdd_tup, goAdd_lst, goAddW_int, goAddW_lst, goPlus_int, goI_int, guI_int, gcI1_int, goIx_lst, gcLen_lst, gcTupleS_lst, gcList_lst, goRevA_lst, goIx_tup, gcLen_tup, gcTupleS_tup, gcList_tup, goRevA_tup, gcTuple_lst, goIx_str, gcLen_str, gcInt_int, gcInt_bl, goMulT_tup, goMulL_lst, goIsB_bl, goIsN_non, isN_int, isN_bl, isN_str, isN_tup, isN_lst, isN_dic, isN_ref, isN_ty, isN_non, gTru_k, truK_non, truK_bl, truK_int, truK_lst, truK_tup, truK_str, gFlist_k, lstK_lst, lstK_tup, gsSl_k, slK_lst, slK_tup, slK_str, itsD_k, itsK_lst, itsK_tup, giZip_k, zipK_lst, zipK_tup, giR1_k, ran1K_nat, ran1K_int, giR2_k, ran2K_int, goLtA_int, goLtA_tup, ok_non, eqv_bl, goEq_int, goNe_int, goEq_bl, goNe_bl, gcMin_ints, gcMinT_ints, gcMax_ints, gcMaxT_ints, intsOf_mapf, blsOf_mapf, gcMin_f, gcMax_f, gcMin_2, gcMax_2, gcSum_ints, gcSum_f, gcBls_f, all_mapid, any_mapid, at_0, at_1, at_2, at_3, at_last, noOwn_nil, noOwn_1, noOwn_2, nof_n, nof_v, nof_b, nof_s, zipD_map, enumD_map, isi_non_int, isi_non_bool, isi_non_str, isi_non_tuple, isi_non_list, isi_non_dict, isi_bl_int, isi_bl_bool, isi_bl_str, isi_bl_tuple, isi_bl_list, isi_bl_dict, isi_int_int, isi_int_bool, isi_int_str, isi_int_tuple, isi_int_list, isi_int_dict, isi_str_int, isi_str_bool, isi_str_str, isi_str_tuple, isi_str_list, isi_str_dict, isi_tup_int, isi_tup_bool, isi_tup_str, isi_tup_tuple, isi_tup_list, isi_tup_dict, isi_lst_int, isi_lst_bool, isi_lst_str, isi_lst_tuple, isi_lst_list, isi_lst_dict, isi_dic_int, isi_dic_bool, isi_dic_str, isi_dic_tuple, isi_dic_list, isi_dic_dict, gcAll, gcAny, goMod, goFdiv, decide_eq_true_eq, Bool.not_eq_true', decide_eq_false_iff_not, ite_not, Bool.and_eq_true, not_false_eq_true, Bool.not_eq_true, List.map_append, Int.zero_add, List.any_cons, List.any_nil, Bool.true_and, Bool.or_false, Bool.xor_false, Bool.false_xor, Bool.true_xor, Bool.not_not, forall_const, Int.toNat_natCast, List.length_map, List.length_append, and_self, ne_eq, List.map_eq_nil_iff, not_true_eq_false, eq_self, goMulI, goSub, goPow, goLe, goGt, goGe, guNeg, gcAbs, goEq_str, goNe_str, goEq_tup, goNe_tup, goEq_lst, goNe_lst, goEq_non, goNe_non, gAndV_k, gOrV_k, gCh_k, blK_bl, ite_bf, reduceCtorEq, Int.reducePow, Int.reduceLT, Int.reduceLE, Int.reduceNeg, sz0, se0, sz1, se1, sz2, se2, sz3, se3, sz4, se4, sz5, se5, sz6, se6, sz7, se7, sz8, se8, sz9, se9, gFld, fldK_ref, gPutF, gPutFM, putFK_ref, gDrf, drfK_ref, gMApp, mlK_ref, gMPop, popK_int, gMIns, ins2K_2, insK_int, gMeth, mthK_ref, gMake, giR3, gFlR1, gFlR2, rg2K_int, gLenSet, lenSetK_lst, lenSetK_tup, gMinD, minDK_lst, giMem, giBA, gMIdx, goTab, gFsort, sortK_lst, sortK_tup])
local macro_rules | `(tactic| wp_walk using $ts,*) => `(tactic| simp only [$[$ts:term],*, gSeq, gSet, gRet, gRetN, gNext, gIfS, gDrop, gOwn, gApp, gExt, gForM, gLcM, gCnt, gTryV, gTryE, gxP, gxM, DL.Fr.mute, gIPut, gFrz, frz, gAsg, gPar, gPar3, gAug, gRaise, gRetM, gSetM, gMPut, gMGet, g1, g2, gC, gV, gVw, gB, gAnd, gOr, gNot, gNotV, gIf, DL.gCons, DL.gNil, DL.gTup, DL.gLst, gFl, gFd, gCa, gLenS, gPart, gNoP, gDisp, gPcons, gPnil, gtN, gtTup, gtCons, gtNil, gYes, gFor, gLc, giS, gCallP, gCallM, gScr, entry, aSls, aSl, DL.Fr.set, OM.d, wipeF, wipeS, keyD, List.length_cons, List.length_nil, List.cons_append, List.nil_append, List.append_nil, List.replicate_succ, List.replicate_zero, List.getElem?_cons_zero, List.getElem?_cons_succ, List.getElem?_nil, List.set_cons_zero, List.set_cons_succ, Nat.reduceAdd, Nat.reduceSub, if_true, if_false, ite_true, ite_false, reduceIte, Bool.false_eq_true, Bool.not_true, Bool.not_false, List.all_cons, List.all_nil, Bool.and_true, true_and, and_true, List.map_cons, List.map_nil, gIdx, ixT_ints, intsOf_map, Int.reduceToNat, Option.some.injEq, exists_eq_left', goAdd_int, goAdd_str, goAdd_tup, goAdd_lst, goAddW_int, goAddW_lst, goPlus_int, goI_int, guI_int, gcI1_int, goIx_lst, gcLen_lst, gcTupleS_lst, gcList_lst, goRevA_lst, goIx_tup, gcLen_tup, gcTupleS_tup, gcList_tup, goRevA_tup, gcTuple_lst, goIx_str, gcLen_str, gcInt_int, gcInt_bl, goMulT_tup, goMulL_lst, goIsB_bl, goIsN_non, isN_int, isN_bl, isN_str, isN_tup, isN_lst, isN_dic, isN_ref, isN_ty, isN_non, gTru_k, truK_non, truK_bl, truK_int, truK_lst, truK_tup, truK_str, gFlist_k, lstK_lst, lstK_tup, gsSl_k, slK_lst, slK_tup, slK_str, itsD_k, itsK_lst, itsK_tup, giZip_k, zipK_lst, zipK_tup, giR1_k, ran1K_nat, ran1K_int, giR2_k, ran2K_int, goLtA_int, goLtA_tup, ok_non, eqv_bl, goEq_int, goNe_int, goEq_bl, goNe_bl, gcMin_ints, gcMinT_ints, gcMax_ints, gcMaxT_ints, intsOf_mapf, blsOf_mapf, gcMin_f, gcMax_f, gcMin_2, gcMax_2, gcSum_ints, gcSum_f, gcBls_f, all_mapid, any_mapid, at_0, at_1, at_2, at_3, at_last, noOwn_nil, noOwn_1, noOwn_2, nof_n, nof_v, nof_b, nof_s, zipD_map, enumD_map, isi_non_int, isi_non_bool, isi_non_str, isi_non_tuple, isi_non_list, isi_non_dict, isi_bl_int, isi_bl_bool, isi_bl_str, isi_bl_tuple, isi_bl_list, isi_bl_dict, isi_int_int, isi_int_bool, isi_int_str, isi_int_tuple, isi_int_list, isi_int_dict, isi_str_int, isi_str_bool, isi_str_str, isi_str_tuple, isi_str_list, isi_str_dict, isi_tup_int, isi_tup_bool, isi_tup_str, isi_tup_tuple, isi_tup_list, isi_tup_dict, isi_lst_int, isi_lst_bool, isi_lst_str, isi_lst_tuple, isi_lst_list, isi_lst_dict, isi_dic_int, isi_dic_bool, isi_dic_str, isi_dic_tuple, isi_dic_list, isi_dic_dict, gcAll, gcAny, goMod, goFdiv, decide_eq_true_eq, Bool.not_eq_true', decide_eq_false_iff_not, ite_not, Bool.and_eq_true, not_false_eq_true, Bool.not_eq_true, List.map_append, Int.zero_add, List.any_cons, List.any_nil, Bool.true_and, Bool.or_false, Bool.xor_false, Bool.false_xor, Bool.true_xor, Bool.not_not, forall_const, Int.toNat_natCast, List.length_map, List.length_append, and_self, ne_eq, List.map_eq_nil_iff, not_true_eq_false, eq_self, goMulI, goSub, goPow, goLe, goGt, goGe, guNeg, gcAbs, goEq_str, goNe_str, goEq_tup, goNe_tup, goEq_lst, goNe_lst, goEq_non, goNe_non, gAndV_k, gOrV_k, gCh_k, blK_bl, ite_bf, reduceCtorEq, Int.reducePow, Int.reduceLT, Int.reduceLE, Int.reduceNeg, sz0, se0, sz1, se1, sz2, se2, sz3, se3, sz4, se4, sz5, se5, sz6, se6, sz7, se7, sz8, se8, sz9, se9, gFld, fldK_ref, gPutF, gPutFM, putFK_ref, gDrf, drfK_ref, gMApp, mlK_ref, gMPop, popK_int, gMIns, ins2K_2, insK_int, gMeth, mthK_ref, gMake, giR3, gFlR1, gFlR2, rg2K_int, gLenSet, lenSetK_lst, lenSetK_tup, gMinD, minDK_lst, giMem, giBA, gMIdx, goTab, gFsort, sortK_lst, sortK_tup])
variable {K : PySem.W.Frag}
/-- what a choosing may take -/
def preTake (r : List D) : Prop := ∃ m : Int, r = [.int m] ∧ 1 ≤ m ∧ m ≤ 1000001
def postTake (r : List D) (d : D) : Prop := ∃ m n : Int, r = [.int m] ∧ d = .int n ∧ 0 ≤ n ∧ n < m
def fs_l_begun (K : PySem.W.Frag) : FS := BegunF
theorem mo_l_begun : MonoF BegunR := begunR_mono
/-- _law_begun -/
def g_l_begun (K : PySem.W.Frag) : GS := gRetM (gDisp (gPcons "cells" (gFd (gLc (giS 0) (gtN 1) (gYes) (gCa gcAbs (gCons (gV 1) gNil)) [1])) (gPcons "at" (gC (.int 0)) (gPcons "rest" (gC (.int 0)) (gPcons "turn" (gC (.int 0)) (gPcons "more" (g2 goAdd (gC (.int 7)) (gLenS 0)) (gPnil)))))))
theorem v_cells {ns : List Int} {a r t m : Int} : valD (stD ns a r t m) (.inr "cells") = some (.lst (ns.map .int)) := rfl
theorem v_at {ns : List Int} {a r t m : Int} : valD (stD ns a r t m) (.inr "at") = some (.int a) := rfl
theorem v_rest {ns : List Int} {a r t m : Int} : valD (stD ns a r t m) (.inr "rest") = some (.int r) := rfl
theorem v_turn {ns : List Int} {a r t m : Int} : valD (stD ns a r t m) (.inr "turn") = some (.int t) := rfl
theorem v_more {ns : List Int} {a r t m : Int} : valD (stD ns a r t m) (.inr "more") = some (.int m) := rfl
theorem p_at {ns : List Int} {a r t m x : Int} : putD (stD ns a r t m) (.inr "at") (.int x) = stD ns x r t m := rfl
theorem p_rest {ns : List Int} {a r t m x : Int} : putD (stD ns a r t m) (.inr "rest") (.int x) = stD ns a x t m := rfl
theorem p_turn {ns : List Int} {a r t m x : Int} : putD (stD ns a r t m) (.inr "turn") (.int x) = stD ns a r x m := rfl
theorem p_more {ns : List Int} {a r t m x : Int} : putD (stD ns a r t m) (.inr "more") (.int x) = stD ns a r t x := rfl
theorem st_len {ns : List Int} {a r t m : Int} : (stD ns a r t m).length < sizeLine := size_lt (by show 5 ≤ _; omega)
theorem h_l_begun : ∀ ds M Q X, BegunR ds M Q X → ds.length = ([.s] : List AK).length → g_l_begun K { nx := fun _ M' => Q .non M', rt := Q } (entry 2 [.s] ds X) M := by
  rintro ds M Q X ⟨ns, rfl, hl, q⟩ -
  wp_walk using g_l_begun, intsOf_map, goAdd
  refine lc_map (fun d => match d with | .int k => .int (if k < 0 then -k else k) | _ => .non) (fun d hd Q' q' => ?_) (size_of (by simp; omega)) ?_
  · obtain ⟨c, hc', rfl⟩ := List.mem_map.mp hd
    wp_walk
    exact q'
  · intro a na
    refine q a _ na ⟨ns.map fun k => if k < 0 then -k else k, 0, 0, 0, 7 + ns.length, ?_, by rw [List.length_map]; exact hl, fun n hn => ?_, by omega, by omega, by omega, by omega, by omega⟩
    · rw [List.nil_append, List.map_map]
      have e : ((fun d => match d with | .int k => D.int (if k < 0 then -k else k) | _ => .non) ∘ D.int) = D.int ∘ fun k => if k < 0 then -k else k := rfl
      rw [e, ← List.map_map]
      rfl
    · obtain ⟨k, _, rfl⟩ := List.mem_map.mp hn
      split <;> omega
def fs_l_take (K : PySem.W.Frag) : FS := DrawF preTake postTake
theorem mo_l_take : MonoF (RawF preTake postTake) := rawF_mono
/-- _law_take -/
def af1_l_take (K : PySem.W.Frag) : GS := gMPut (gV 0) (gC (.str "at")) (g2 goAdd (gMGet (gV 0) (gC (.str "at"))) (gC (.int 1)))
def lp1_l_take (K : PySem.W.Frag) : GS := gSeq (gIfS (gB (g2 goGe (g2 goIx (gV 2) (gMGet (gV 0) (gC (.str "at")))) (g2 goPow (gC (.int 10)) (gC (.int 18))))) (gMPut (gV 0) (gC (.str "rest")) (g2 goIx (gV 2) (gMGet (gV 0) (gC (.str "at"))))) (gNext)) (af1_l_take K)
def af2_l_take (K : PySem.W.Frag) : GS := gSeq (gMPut (gV 0) (gC (.str "turn")) (g2 goAdd (gMGet (gV 0) (gC (.str "turn"))) (gC (.int 1)))) (gSeq (gMPut (gV 0) (gC (.str "more")) (g2 goMod (g2 goAdd (g2 goAdd (g2 goMulI (gMGet (gV 0) (gC (.str "more"))) (gC (.int 48271))) (gV 4)) (gMGet (gV 0) (gC (.str "turn")))) (gC (.int 2147483647)))) (gRet (g2 goMod (g2 goMod (g2 goAdd (g2 goMulI (gMGet (gV 0) (gC (.str "more"))) (gMGet (gV 0) (gC (.str "more")))) (g2 goMulI (gC (.int 16807)) (gMGet (gV 0) (gC (.str "more"))))) (gC (.int 2147483629))) (gV 1))))
def af3_l_take (K : PySem.W.Frag) : GS := gSeq (gSet 4 (gC (.int 0))) (gSeq (gIfS (gB (g2 goGt (gCa gcLen (gCons (gV 2) gNil)) (gC (.int 0)))) (gSet 4 (g2 goIx (gV 2) (g2 goMod (gMGet (gV 0) (gC (.str "turn"))) (gCa gcLen (gCons (gV 2) gNil))))) (gNext)) (af2_l_take K))
def af4_l_take (K : PySem.W.Frag) : GS := gSeq (gIfS (gB (g2 goGt (gMGet (gV 0) (gC (.str "rest"))) (gC (.int 1)))) (gSeq (gSet 3 (g2 goMod (gMGet (gV 0) (gC (.str "rest"))) (gV 1))) (gSeq (gMPut (gV 0) (gC (.str "rest")) (g2 goFdiv (gMGet (gV 0) (gC (.str "rest"))) (gV 1))) (gRet (gV 3)))) (gNext)) (af3_l_take K)
def g_l_take (K : PySem.W.Frag) : GS := gSeq (gSet 2 (gMGet (gV 0) (gC (.str "cells")))) (gSeq (gWhile (gAnd (gB (g2 goLtA (gMGet (gV 0) (gC (.str "rest"))) (gC (.int 2)))) (gB (g2 goLtA (gMGet (gV 0) (gC (.str "at"))) (gCa gcLen (gCons (gV 2) gNil))))) (lp1_l_take K)) (af4_l_take K))
theorem h_l_take : ∀ ds M Q X, RawF preTake postTake ds M Q X → ds.length = ([.v, .v] : List AK).length → g_l_take K { nx := fun _ M' => Q .non M', rt := Q } (entry 5 [.v, .v] ds X) M := by
  rintro ds M Q X ⟨a, r, kds, rfl, ms, ⟨ns, at_, rest, turn, more, rfl, hl, hn, a0, r0, t0, m0, m1⟩, ⟨many, rfl, y0, y1⟩, q⟩ -
  have fin : ∀ (n : Int) (at_ rest turn more : Int), 0 ≤ n → n < many → 0 ≤ at_ → 0 ≤ rest → 0 ≤ turn → 0 ≤ more → more < 2147483648 → Q (.int n) (mup M a (.om (.dic (stD ns at_ rest turn more)))) :=
    fun n at_ rest turn more h1 h2 h3 h4 h5 h6 h7 => q _ _ ⟨many, n, rfl, rfl, h1, h2⟩ ⟨ns, at_, rest, turn, more, rfl, hl, hn, h3, h4, h5, h6, h7⟩
  wp_walk using g_l_take, ms, v_cells
  refine ⟨fun m r M' => ∃ at_ rest turn more : Int, M' = mup M a (.om (.dic (stD ns at_ rest turn more))) ∧ r = ⟨[.v (.ref a), .v (.int many), .v (.lst (ns.map .int)), .n, .n], X⟩ ∧ 0 ≤ at_ ∧ 0 ≤ rest ∧ 0 ≤ turn ∧ 0 ≤ more ∧ more < 2147483648 ∧ m = ((ns.length : Int) - at_).toNat,
    ⟨_, at_, rest, turn, more, (mup_self ms).symm, rfl, a0, r0, t0, m0, m1, rfl⟩, ?_⟩
  rintro m r M' ⟨at_, rest, turn, more, rfl, rfl, a0, r0, t0, m0, m1, rfl⟩
  have rest_ : af4_l_take K { nx := fun x M' => Q D.non M', rt := Q } ⟨[.v (.ref a), .v (.int many), .v (.lst (ns.map .int)), .n, .n], X⟩ (mup M a (.om (.dic (stD ns at_ rest turn more)))) := by
    wp_walk using af4_l_take, mup_same, v_rest, goMod, goFdiv
    by_cases h : 1 < rest
    · rw [if_pos h]
      refine ⟨by omega, ⟨by omega, ?_⟩, st_len, ?_⟩
      · have := Nat.log2_lt (n := many.natAbs) (k := 9000) (by omega)
        exact (this.mpr (Nat.lt_of_lt_of_le (show many.natAbs < 2 ^ 20 by omega) (Nat.pow_le_pow_right (by decide) (by decide))))
      · rw [mup_mup, p_rest]
        exact fin _ _ _ _ _ (Int.emod_nonneg _ (by omega)) (Int.emod_lt_of_pos _ (by omega)) a0 (Int.ediv_nonneg (by omega) (by omega)) t0 m0 m1
    · rw [if_neg h]
      have tail : ∀ c : Int, 0 ≤ c → af2_l_take K { nx := fun x M' => Q D.non M', rt := Q } ⟨[.v (.ref a), .v (.int many), .v (.lst (ns.map .int)), .n, .v (.int c)], X⟩ (mup M a (.om (.dic (stD ns at_ rest turn more)))) := fun c c0 => by
        wp_walk using af2_l_take, mup_same, v_turn, goAdd
        refine ⟨st_len, ?_⟩
        rw [mup_mup, p_turn]
        wp_walk using mup_same, v_more, v_turn
        refine ⟨.inr ⟨by decide, by decide⟩, st_len, ?_⟩
        rw [mup_mup, p_more]
        have y0 : 0 ≤ (more * 48271 + c + (turn + 1)) % 2147483647 := Int.emod_nonneg _ (by decide)
        have y1 : (more * 48271 + c + (turn + 1)) % 2147483647 < 2147483647 := Int.emod_lt_of_pos _ (by decide)
        generalize (more * 48271 + c + (turn + 1)) % 2147483647 = y at y0 y1 ⊢
        wp_walk using mup_same, v_more
        exact ⟨.inl ⟨by omega, by omega⟩, .inl ⟨by decide, by decide⟩, by omega, fin _ _ _ _ _ (Int.emod_nonneg _ (by omega)) (Int.emod_lt_of_pos _ (by omega)) a0 r0 (by omega) y0 (by omega)⟩
      wp_walk using af3_l_take, List.length_map
      by_cases h0 : (0 : Int) < (ns.length : Nat)
      · rw [if_pos h0]
        have t1 := Int.emod_nonneg turn (show ((ns.length : Nat) : Int) ≠ 0 by omega)
        have t2 := Int.emod_lt_of_pos turn h0
        obtain ⟨z, hz, hz2, _⟩ := atI_in (xs := ns.map D.int) t1 (by rw [List.length_map]; exact t2)
        obtain ⟨c, hc, rfl⟩ := List.mem_map.mp hz2
        wp_walk using mup_same, v_turn, goMod, List.length_map, hz
        exact ⟨h0, tail c (hn c hc)⟩
      · rw [if_neg h0]
        exact tail 0 (by decide)
  wp_walk using mup_same, v_rest, v_at, List.length_map
  by_cases h1 : rest < 2
  · rw [if_pos h1]
    by_cases h2 : at_ < (ns.length : Nat)
    · rw [if_pos h2]
      obtain ⟨z, hz, hz2, _⟩ := atI_in (xs := ns.map D.int) a0 (by rw [List.length_map]; exact h2)
      obtain ⟨c, hc, rfl⟩ := List.mem_map.mp hz2
      have tail : ∀ (DD : DEnds) (rest : Int), DD.nx ⟨[.v (.ref a), .v (.int many), .v (.lst (ns.map .int)), .n, .n], X⟩ (mup M a (.om (.dic (stD ns (at_ + 1) rest turn more)))) →
          af1_l_take K DD ⟨[.v (.ref a), .v (.int many), .v (.lst (ns.map .int)), .n, .n], X⟩ (mup M a (.om (.dic (stD ns at_ rest turn more)))) := fun DD rest h => by
        wp_walk using af1_l_take, mup_same, v_at, goAdd
        refine ⟨st_len, ?_⟩
        rw [mup_mup, p_at]
        exact h
      have nxt : ∀ rest : Int, 0 ≤ rest → ∃ m', m' < ((ns.length : Int) - at_).toNat ∧ ∃ at_' rest' turn' more' : Int, mup M a (.om (.dic (stD ns (at_ + 1) rest turn more))) = mup M a (.om (.dic (stD ns at_' rest' turn' more'))) ∧
          (⟨[.v (.ref a), .v (.int many), .v (.lst (ns.map .int)), .n, .n], X⟩ : DL.Fr) = ⟨[.v (.ref a), .v (.int many), .v (.lst (ns.map .int)), .n, .n], X⟩ ∧ 0 ≤ at_' ∧ 0 ≤ rest' ∧ 0 ≤ turn' ∧ 0 ≤ more' ∧ more' < 2147483648 ∧ m' = ((ns.length : Int) - at_').toNat :=
        fun rest r0 => ⟨((ns.length : Int) - (at_ + 1)).toNat, by omega, at_ + 1, rest, turn, more, rfl, rfl, by omega, r0, t0, m0, m1, rfl⟩
      wp_walk using lp1_l_take, mup_same, v_at, hz, goPow
      refine ⟨⟨by decide, by decide, by decide⟩, ?_⟩
      split
      · refine ⟨st_len, ?_⟩
        rw [mup_mup, p_rest]
        exact tail _ c (nxt c (hn c hc))
      · exact tail _ rest (nxt rest r0)
    · rw [if_neg h2]
      exact rest_
  · rw [if_neg h1]
    exact rest_
theorem take_of {M : Mem} {a : Addr} {m : Int} {Q : D → Mem → Prop} {X : Addr → Mem → Prop} (ms : M a = some .st) (h1 : 1 ≤ m) (h2 : m ≤ 1000001) (h : ∀ n : Int, 0 ≤ n → n < m → Q (.int n) M) : fs_l_take K [.ref a, .int m] M Q X :=
  ⟨a, _, rfl, ms, ⟨m, rfl, h1, h2⟩, fun d ⟨m', n, e, e2, h3, h4⟩ => by cases e; subst e2; exact h n h3 h4⟩
def seqOf : D → Option (List D)
  | .lst xs => some xs
  | .tup xs => some xs
  | _ => none
def fs_l_pick (K : PySem.W.Frag) : FS := DrawF (fun r => ∃ d xs, r = [d] ∧ seqOf d = some xs ∧ 0 < xs.length ∧ xs.length ≤ 1000000) fun r z => ∃ d xs, r = [d] ∧ seqOf d = some xs ∧ z ∈ xs
theorem mo_l_pick {K : PySem.W.Frag} : MonoF (fs_l_pick K) := drawF_mono
/-- _law_pick -/
def g_l_pick (K : PySem.W.Frag) : GS := gRet (g2 goIx (gV 1) (gCallM (fs_l_take K) (gCons (gV 0) (gCons (gCa gcLen (gCons (gV 1) gNil)) gNil))))
theorem h_l_pick {K : PySem.W.Frag} : ∀ ds M Q X, (fs_l_pick K) ds M Q X → ds.length = ([.v, .v] : List AK).length → g_l_pick K { nx := fun _ M' => Q .non M', rt := Q } (entry 2 [.v, .v] ds X) M := by
  rintro ds M Q X ⟨a, r, rfl, ms, ⟨d, xs, rfl, hs, h0, h1⟩, q⟩ -
  cases d <;> simp only [seqOf, reduceCtorEq, Option.some.injEq] at hs <;> subst hs
  all_goals
    wp_walk using g_l_pick
    refine take_of ms (by omega) (by omega) fun n n0 n1 => ?_
    obtain ⟨z, e, hz, _⟩ := atI_in n0 n1
    wp_walk using e
    exact q z ⟨_, _, rfl, rfl, hz⟩
theorem pick_of {M : Mem} {a : Addr} {d : D} {xs : List D} {Q : D → Mem → Prop} {X : Addr → Mem → Prop} (ms : M a = some .st) (hs : seqOf d = some xs) (h1 : 0 < xs.length) (h2 : xs.length ≤ 1000000) (h : ∀ z ∈ xs, Q z M) : fs_l_pick K [.ref a, d] M Q X :=
  ⟨a, _, rfl, ms, ⟨d, xs, rfl, hs, h1, h2⟩, fun z ⟨d', ys, e, e2, hd⟩ => by
    cases e
    rw [hs] at e2
    cases e2
    exact h z hd⟩
end LW
namespace LW
open PySem PySem.Spec PySem.W PyProof.Rows L2 DL
local macro_rules | `(tactic| wp_walk) => `(tactic| simp only [gSeq, gSet, gRet, gRetN, gNext, gIfS, gDrop, gOwn, gApp, gExt, gForM, gLcM, gCnt, gTryV, gTryE, gxP, gxM, DL.Fr.mute, gIPut, gFrz, frz, gAsg, gPar, gPar3, gAug, gRaise, gRetM, gSetM, gMPut, gMGet, g1, g2, gC, gV, gVw, gB, gAnd, gOr, gNot, gNotV, gIf, DL.gCons, DL.gNil, DL.gTup, DL.gLst, gFl, gFd, gCa, gLenS, gPart, gNoP, gDisp, gPcons, gPnil, gtN, gtTup, gtCons, gtNil, gYes, gFor, gLc, giS, gCallP, gCallM, gScr, entry, aSls, aSl, DL.Fr.set, OM.d, wipeF, wipeS, keyD, List.length_cons, List.length_nil, List.cons_append, List.nil_append, List.append_nil, List.replicate_succ, List.replicate_zero, List.getElem?_cons_zero, List.getElem?_cons_succ, List.getElem?_nil, List.set_cons_zero, List.set_cons_succ, Nat.reduceAdd, Nat.reduceSub, if_true, if_false, ite_true, ite_false, reduceIte, Bool.false_eq_true, Bool.not_true, Bool.not_false, List.all_cons, List.all_nil, Bool.and_true, true_and, and_true, List.map_cons, List.map_nil, gIdx, ixT_ints, intsOf_map, Int.reduceToNat, Option.some.injEq, exists_eq_left', goAdd_int, goAdd_str, goAdd_tup, goAdd_lst, goAddW_int, goAddW_lst, goPlus_int, goI_int, guI_int, gcI1_int, goIx_lst, gcLen_lst, gcTupleS_lst, gcList_lst, goRevA_lst, goIx_tup, gcLen_tup, gcTupleS_tup, gcList_tup, goRevA_tup, gcTuple_lst, goIx_str, gcLen_str, gcInt_int, gcInt_bl, goMulT_tup, goMulL_lst, goIsB_bl, goIsN_non, isN_int, isN_bl, isN_str, isN_tup, isN_lst, isN_dic, isN_ref, isN_ty, isN_non, gTru_k, truK_non, truK_bl, truK_int, truK_lst, truK_tup, truK_str, gFlist_k, lstK_lst, lstK_tup, gsSl_k, slK_lst, slK_tup, slK_str, itsD_k, itsK_lst, itsK_tup, giZip_k, zipK_lst, zipK_tup, giR1_k, ran1K_nat, ran1K_int, giR2_k, ran2K_int, goLtA_int, goLtA_tup, ok_non, eqv_bl, goEq_int, goNe_int, goEq_bl, goNe_bl, gcMin_ints, gcMinT_ints, gcMax_ints, gcMaxT_ints, intsOf_mapf, blsOf_mapf, gcMin_f, gcMax_f, gcMin_2, gcMax_2, gcSum_ints, gcSum_f, gcBls_f, all_mapid, any_mapid, at_0, at_1, at_2, at_3, at_last, noOwn_nil, noOwn_1, noOwn_2, nof_n, nof_v, nof_b, nof_s, zipD_map, enumD_map, isi_non_int, isi_non_bool, isi_non_str, isi_non_tuple, isi_non_list, isi_non_dict, isi_bl_int, isi_bl_bool, isi_bl_str, isi_bl_tuple, isi_bl_list, isi_bl_dict, isi_int_int, isi_int_bool, isi_int_str, isi_int_tuple, isi_int_list, isi_int_dict, isi_str_int, isi_str_bool, isi_str_str, isi_str_tuple, isi_str_list, isi_str_dict, isi_tup_int, isi_tup_bool, isi_tup_str, isi_tup_tuple, isi_tup_list, isi_tup_dict, isi_lst_int, isi_lst_bool, isi_lst_str, isi_lst_tuple, isi_lst_list, isi_lst_dict, isi_dic_int, isi_dic_bool, isi_dic_str, isi_dic_tuple, isi_dic_list, isi_dic_dict, gcAll, gcAny, goMod, goFdiv, decide_eq_true_eq, Bool.not_eq_true', decide_eq_false_iff_not, ite_not, Bool.and_eq_true, not_false_eq_true, Bool.not_eq_true, List.map_append, Int.zero_add, List.any_cons, List.any_nil, Bool.true_and, Bool.or_false, Bool.xor_false, Bool.false_xor, Bool.true_xor, Bool.not_not, forall_const, Int.toNat_natCast, List.length_map, List.length_append, and_self, ne_eq, List.map_eq_nil_iff, not_true_eq_false, eq_self, goMulI, goSub, goPow, goLe, goGt, goGe, guNeg, gcAbs, goEq_str, goNe_str, goEq_tup, goNe_tup, goEq_lst, goNe_lst, goEq_non, goNe_non, gAndV_k, gOrV_k, gCh_k, blK_bl, ite_bf, reduceCtorEq, Int.reducePow, Int.reduceLT, Int.reduceLE, Int.reduceNeg, sz0, se0, sz1, se1, sz2, se2, sz3, se3, sz4, se4, sz5, se5, sz6, se6, sz7, se7, sz8, se8, sz9, se9, gFld, fldK_ref, gPutF, gPutFM, putFK_ref, gDrf, drfK_ref, gMApp, mlK_ref, gMPop, popK_int, gMIns, ins2K_2, insK_int, gMeth, mthK_ref, gMake, giR3, gFlR1, gFlR2, rg2K_int, gLenSet, lenSetK_lst, lenSetK_tup, gMinD, minDK_lst, giMem, giBA, gMIdx, goTab, gFsort, sortK_lst, sortK_tup])
local macro_rules | `(tactic| wp_walk using $ts,*) => `(tactic| simp only [$[$ts:term],*, gSeq, gSet, gRet, gRetN, gNext, gIfS, gDrop, gOwn, gApp, gExt, gForM, gLcM, gCnt, gTryV, gTryE, gxP, gxM, DL.Fr.mute, gIPut, gFrz, frz, gAsg, gPar, gPar3, gAug, gRaise, gRetM, gSetM, gMPut, gMGet, g1, g2, gC, gV, gVw, gB, gAnd, gOr, gNot, gNotV, gIf, DL.gCons, DL.gNil, DL.gTup, DL.gLst, gFl, gFd, gCa, gLenS, gPart, gNoP, gDisp, gPcons, gPnil, gtN, gtTup, gtCons, gtNil, gYes, gFor, gLc, giS, gCallP, gCallM, gScr, entry, aSls, aSl, DL.Fr.set, OM.d, wipeF, wipeS, keyD, List.length_cons, List.length_nil, List.cons_append, List.nil_append, List.append_nil, List.replicate_succ, List.replicate_zero, List.getElem?_cons_zero, List.getElem?_cons_succ, List.getElem?_nil, List.set_cons_zero, List.set_cons_succ, Nat.reduceAdd, Nat.reduceSub, if_true, if_false, ite_true, ite_false, reduceIte, Bool.false_eq_true, Bool.not_true, Bool.not_false, List.all_cons, List.all_nil, Bool.and_true, true_and, and_true, List.map_cons, List.map_nil, gIdx, ixT_ints, intsOf_map, Int.reduceToNat, Option.some.injEq, exists_eq_left', goAdd_int, goAdd_str, goAdd_tup, goAdd_lst, goAddW_int, goAddW_lst, goPlus_int, goI_int, guI_int, gcI1_int, goIx_lst, gcLen_lst, gcTupleS_lst, gcList_lst, goRevA_lst, goIx_tup, gcLen_tup, gcTupleS_tup, gcList_tup, goRevA_tup, gcTuple_lst, goIx_str, gcLen_str, gcInt_int, gcInt_bl, goMulT_tup, goMulL_lst, goIsB_bl, goIsN_non, isN_int, isN_bl, isN_str, isN_tup, isN_lst, isN_dic, isN_ref, isN_ty, isN_non, gTru_k, truK_non, truK_bl, truK_int, truK_lst, truK_tup, truK_str, gFlist_k, lstK_lst, lstK_tup, gsSl_k, slK_lst, slK_tup, slK_str, itsD_k, itsK_lst, itsK_tup, giZip_k, zipK_lst, zipK_tup, giR1_k, ran1K_nat, ran1K_int, giR2_k, ran2K_int, goLtA_int, goLtA_tup, ok_non, eqv_bl, goEq_int, goNe_int, goEq_bl, goNe_bl, gcMin_ints, gcMinT_ints, gcMax_ints, gcMaxT_ints, intsOf_mapf, blsOf_mapf, gcMin_f, gcMax_f, gcMin_2, gcMax_2, gcSum_ints, gcSum_f, gcBls_f, all_mapid, any_mapid, at_0, at_1, at_2, at_3, at_last, noOwn_nil, noOwn_1, noOwn_2, nof_n, nof_v, nof_b, nof_s, zipD_map, enumD_map, isi_non_int, isi_non_bool, isi_non_str, isi_non_tuple, isi_non_list, isi_non_dict, isi_bl_int, isi_bl_bool, isi_bl_str, isi_bl_tuple, isi_bl_list, isi_bl_dict, isi_int_int, isi_int_bool, isi_int_str, isi_int_tuple, isi_int_list, isi_int_dict, isi_str_int, isi_str_bool, isi_str_str, isi_str_tuple, isi_str_list, isi_str_dict, isi_tup_int, isi_tup_bool, isi_tup_str, isi_tup_tuple, isi_tup_list, isi_tup_dict, isi_lst_int, isi_lst_bool, isi_lst_str, isi_lst_tuple, isi_lst_list, isi_lst_dict, isi_dic_int, isi_dic_bool, isi_dic_str, isi_dic_tuple, isi_dic_list, isi_dic_dict, gcAll, gcAny, goMod, goFdiv, decide_eq_true_eq, Bool.not_eq_true', decide_eq_false_iff_not, ite_not, Bool.and_eq_true, not_false_eq_true, Bool.not_eq_true, List.map_append, Int.zero_add, List.any_cons, List.any_nil, Bool.true_and, Bool.or_false, Bool.xor_false, Bool.false_xor, Bool.true_xor, Bool.not_not, forall_const, Int.toNat_natCast, List.length_map, List.length_append, and_self, ne_eq, List.map_eq_nil_iff, not_true_eq_false, eq_self, goMulI, goSub, goPow, goLe, goGt, goGe, guNeg, gcAbs, goEq_str, goNe_str, goEq_tup, goNe_tup, goEq_lst, goNe_lst, goEq_non, goNe_non, gAndV_k, gOrV_k, gCh_k, blK_bl, ite_bf, reduceCtorEq, Int.reducePow, Int.reduceLT, Int.reduceLE, Int.reduceNeg, sz0, se0, sz1, se1, sz2, se2, sz3, se3, sz4, se4, sz5, se5, sz6, se6, sz7, se7, sz8, se8, sz9, se9, gFld, fldK_ref, gPutF, gPutFM, putFK_ref, gDrf, drfK_ref, gMApp, mlK_ref, gMPop, popK_int, gMIns, ins2K_2, insK_int, gMeth, mthK_ref, gMake, giR3, gFlR1, gFlR2, rg2K_int, gLenSet, lenSetK_lst, lenSetK_tup, gMinD, minDK_lst, giMem, giBA, gMIdx, goTab, gFsort, sortK_lst, sortK_tup])
variable {K : PySem.W.Frag}
def isSort (d : D) : Bool := match d with
  | .str z => decide (z ∈ (["set", "row", "map"] : List PySem.Str))
  | _ => false
def fs_p_need_sort (K : PySem.W.Frag) : FS := fun ds M Q X => ∃ d, ds = [d] ∧ d.da = true ∧ (isSort d = true → Q .non M) ∧ (isSort d = false → X (He.ga K "NoSort") M)
theorem mo_p_need_sort {K : PySem.W.Frag} : MonoF (fs_p_need_sort K) := fun _ _ _ _ _ _ h hx ⟨d, e, c, q, q2⟩ => ⟨d, e, c, fun z => h _ _ (q z), fun z => hx _ _ (q2 z)⟩
/-- need_sort -/
def g_p_need_sort (K : PySem.W.Frag) : GS := gIfS (gOr (gNot (gTru (gCa gcIsi (gCons (gV 0) (gCons (gC (.ty "str")) gNil))))) (gB (g2 (goTab (He.ga K "WORDS") ["set", "row", "map"] true) (gV 0) (gC (.ref (He.ga K "WORDS")))))) (gRaise (He.ga K "NoSort")) (gNext)
theorem h_p_need_sort {K : PySem.W.Frag} : ∀ ds M Q X, (fs_p_need_sort K) ds M Q X → ds.length = ([.v] : List AK).length → g_p_need_sort K { nx := fun _ M' => Q .non M', rt := Q } (entry 1 [.v] ds X) M := by
  rintro ds M Q X ⟨d, rfl, ht, q, q2⟩ -
  wp_walk using g_p_need_sort
  cases d
  case str z =>
    wp_walk
    by_cases h : z ∈ (["set", "row", "map"] : List PySem.Str)
    · rw [if_pos h]
      exact q (decide_eq_true h)
    · rw [if_neg h]
      exact q2 (decide_eq_false h)
  all_goals first | (simp [D.da] at ht; done) | (wp_walk; exact q2 rfl)
/-- a key and a value -/
def pI (p : Int × Int) : D := .tup [.int p.1, .int p.2]
/-- the sorts of shelves -/
inductive So where
  | set | row | map
def So.s : So → PySem.Str
  | .set => "set"
  | .row => "row"
  | .map => "map"
theorem isSort_iff {d : D} (h : isSort d = true) : ∃ so : So, d = .str so.s := by
  cases d <;> first | (cases h; done) | skip
  rename_i z
  have h2 := of_decide_eq_true h
  simp only [List.mem_cons, List.not_mem_nil, or_false] at h2
  rcases h2 with rfl | rfl | rfl
  · exact ⟨.set, rfl⟩
  · exact ⟨.row, rfl⟩
  · exact ⟨.map, rfl⟩
theorem isSort_so (so : So) : isSort (.str so.s) = true := by cases so <;> decide +kernel
end LW
namespace LW
open PySem PySem.Spec PySem.W PyProof.Rows L2 DL
local macro_rules | `(tactic| wp_walk) => `(tactic| simp only [e_gSeq, e_gSet, e_gRet, e_gRetN, e_gNext, e_gIfS, e_gDrop, e_gOwn, e_gApp, e_gExt, e_gForM, e_gLcM, e_gCnt, e_gTryV, e_gTryE, e_gxP, e_gxM, DL.Fr.mute, e_gIPut, e_gFrz, frz, e_gAsg, e_gPar, e_gPar3, e_gAug, e_gRaise, e_gRetM, e_gSetM, e_gMPut, e_gMGet, e_g1, e_g2, e_gC, e_gV, e_gVw, e_gB, e_gAnd, e_gOr, e_gNot, e_gNotV, e_gIf, e_DL_gCons, e_DL_gNil, e_DL_gTup, e_DL_gLst, e_gFl, e_gFd, e_gCa, e_gLenS, e_gPart, e_gNoP, e_gDisp, e_gPcons, e_gPnil, e_gtN, e_gtTup, e_gtCons, e_gtNil, e_gYes, e_gFor, e_gLc, e_giS, e_gCallP, e_gCallM, e_gScr, entry, aSls, aSl, DL.Fr.set, OM.d, wipeF, wipeS, keyD, List.length_cons, List.length_nil, List.cons_append, List.nil_append, List.append_nil, List.replicate_succ, List.replicate_zero, List.getElem?_cons_zero, List.getElem?_cons_succ, List.getElem?_nil, List.set_cons_zero, List.set_cons_succ, Nat.reduceAdd, Nat.reduceSub, if_true, if_false, ite_true, ite_false, reduceIte, Bool.false_eq_true, Bool.not_true, Bool.not_false, List.all_cons, List.all_nil, Bool.and_true, true_and, and_true, List.map_cons, List.map_nil, e_gIdx, ixT_ints, intsOf_map, Int.reduceToNat, Option.some.injEq, exists_eq_left', e_goAdd_int, e_goAdd_str, e_goAdd_tup, e_goAdd_lst, e_goAddW_int, e_goAddW_lst, e_goPlus_int, e_goI_int, e_guI_int, e_gcI1_int, e_goIx_lst, e_gcLen_lst, e_gcTupleS_lst, e_gcList_lst, e_goRevA_lst, e_goIx_tup, e_gcLen_tup, e_gcTupleS_tup, e_gcList_tup, e_goRevA_tup, e_gcTuple_lst, e_goIx_str, e_gcLen_str, e_gcInt_int, e_gcInt_bl, e_goMulT_tup, e_goMulL_lst, e_goIsB_bl, e_goIsN_non, isN_int, isN_bl, isN_str, isN_tup, isN_lst, isN_dic, isN_ref, isN_ty, isN_non, gTru_k, e_truK_non, e_truK_bl, e_truK_int, e_truK_lst, e_truK_tup, e_truK_str, gFlist_k, e_lstK_lst, e_lstK_tup, gsSl_k, e_slK_lst, slK_tup, e_slK_str, itsD_k, e_itsK_lst, e_itsK_tup, giZip_k, e_zipK_lst, e_zipK_tup, giR1_k, ran1K_nat, e_ran1K_int, giR2_k, e_ran2K_int, e_goLtA_int, goLtA_tup, ok_non, eqv_bl, e_goEq_int, e_goNe_int, e_goEq_bl, e_goNe_bl, gcMin_ints, gcMinT_ints, gcMax_ints, gcMaxT_ints, intsOf_mapf, blsOf_mapf, gcMin_f, gcMax_f, gcMin_2, gcMax_2, gcSum_ints, gcSum_f, gcBls_f, all_mapid, any_mapid, at_0, at_1, at_2, at_3, at_last, noOwn_nil, noOwn_1, noOwn_2, nof_n, nof_v, nof_b, nof_s, zipD_map, enumD_map, isi_non_int, isi_non_bool, isi_non_str, isi_non_tuple, isi_non_list, isi_non_dict, isi_bl_int, isi_bl_bool, isi_bl_str, isi_bl_tuple, isi_bl_list, isi_bl_dict, isi_int_int, isi_int_bool, isi_int_str, isi_int_tuple, isi_int_list, isi_int_dict, isi_str_int, isi_str_bool, isi_str_str, isi_str_tuple, isi_str_list, isi_str_dict, isi_tup_int, isi_tup_bool, isi_tup_str, isi_tup_tuple, isi_tup_list, isi_tup_dict, isi_lst_int, isi_lst_bool, isi_lst_str, isi_lst_tuple, isi_lst_list, isi_lst_dict, isi_dic_int, isi_dic_bool, isi_dic_str, isi_dic_tuple, isi_dic_list, isi_dic_dict, gcAll, gcAny, goMod, goFdiv, decide_eq_true_eq, Bool.not_eq_true', decide_eq_false_iff_not, ite_not, Bool.and_eq_true, not_false_eq_true, Bool.not_eq_true, List.map_append, Int.zero_add, List.any_cons, List.any_nil, Bool.true_and, Bool.or_false, Bool.xor_false, Bool.false_xor, Bool.true_xor, Bool.not_not, forall_const, Int.toNat_natCast, List.length_map, List.length_append, and_self, ne_eq, List.map_eq_nil_iff, not_true_eq_false, eq_self, goMulI, goSub, goPow, goLe, goGt, goGe, guNeg, gcAbs, e_goEq_str, e_goNe_str, e_goEq_tup, e_goNe_tup, e_goEq_lst, e_goNe_lst, e_goEq_non, e_goNe_non, e_gAndV_k, e_gOrV_k, e_gCh_k, blK_bl, ite_bf, reduceCtorEq, Int.reducePow, Int.reduceLT, Int.reduceLE, Int.reduceNeg, sz0, se0, sz1, se1, sz2, se2, sz3, se3, sz4, se4, sz5, se5, sz6, se6, sz7, se7, sz8, se8, sz9, se9, e_gFld, e_fldK_ref, e_gPutF, e_gPutFM, e_putFK_ref, e_gDrf, e_drfK_ref, e_gMApp, e_mlK_ref, e_gMPop, e_popK_int, e_gMIns, ins2K_2, insK_int, e_gMeth, e_mthK_ref, e_gMake, e_giR3, e_gFlR1, e_gFlR2, e_rg2K_int, e_gLenSet, lenSetK_lst, lenSetK_tup, e_gMinD, minDK_lst, e_giMem, e_giBA, e_gMIdx, e_goTab, e_gFsort, sortK_lst, sortK_tup, e_gStep, e_stepK_lst, e_gAppM, e_gDictV, e_gFdict, e_dictK_lst, e_dictK_tup, e_dictK_dic, e_gDic0, e_gFdic0, e_gDGet1, e_gDGet2, e_dicK_dic, e_gOPut, e_gOPop, e_giKeys, e_gPconsI, e_gDispV, e_goIx_dic, e_gcLen_dic, e_lstK_dic, e_truK_dic, getK, dgetK, e_gOIns, ins2K_2, insK_int, e_gCallL, e_gAct, e_gxAct, gLamT, lamS, lam1, entryL, e_gxV, e_gItemsT, e_gFvals, e_giItems, e_gFsortD, e_sortDK_dic, kvD, goEqE_lst, goEqE_tup, List.isEmpty_cons, List.isEmpty_nil, gcReprA_1, gcStrA_1, goEqI_x, goAddB_ii, goAddB_bi, goAddB_ib, goSubB_ii, goSubB_bi, goSubB_ib, goMulB_ii, goMulB_bi, goMulB_ib, guNegB_i, guNegB_b, goMulS_x, gcIntS_1, e_gIxO, e_gFaddO, giZipX_k, zipXK_ll, zipXK_tt, zipXK_tl, zipXK_lt, goInT_tup, e_gtLst])
local macro_rules | `(tactic| wp_walk using $ts,*) => `(tactic| simp only [$[$ts:term],*, e_gSeq, e_gSet, e_gRet, e_gRetN, e_gNext, e_gIfS, e_gDrop, e_gOwn, e_gApp, e_gExt, e_gForM, e_gLcM, e_gCnt, e_gTryV, e_gTryE, e_gxP, e_gxM, DL.Fr.mute, e_gIPut, e_gFrz, frz, e_gAsg, e_gPar, e_gPar3, e_gAug, e_gRaise, e_gRetM, e_gSetM, e_gMPut, e_gMGet, e_g1, e_g2, e_gC, e_gV, e_gVw, e_gB, e_gAnd, e_gOr, e_gNot, e_gNotV, e_gIf, e_DL_gCons, e_DL_gNil, e_DL_gTup, e_DL_gLst, e_gFl, e_gFd, e_gCa, e_gLenS, e_gPart, e_gNoP, e_gDisp, e_gPcons, e_gPnil, e_gtN, e_gtTup, e_gtCons, e_gtNil, e_gYes, e_gFor, e_gLc, e_giS, e_gCallP, e_gCallM, e_gScr, entry, aSls, aSl, DL.Fr.set, OM.d, wipeF, wipeS, keyD, List.length_cons, List.length_nil, List.cons_append, List.nil_append, List.append_nil, List.replicate_succ, List.replicate_zero, List.getElem?_cons_zero, List.getElem?_cons_succ, List.getElem?_nil, List.set_cons_zero, List.set_cons_succ, Nat.reduceAdd, Nat.reduceSub, if_true, if_false, ite_true, ite_false, reduceIte, Bool.false_eq_true, Bool.not_true, Bool.not_false, List.all_cons, List.all_nil, Bool.and_true, true_and, and_true, List.map_cons, List.map_nil, e_gIdx, ixT_ints, intsOf_map, Int.reduceToNat, Option.some.injEq, exists_eq_left', e_goAdd_int, e_goAdd_str, e_goAdd_tup, e_goAdd_lst, e_goAddW_int, e_goAddW_lst, e_goPlus_int, e_goI_int, e_guI_int, e_gcI1_int, e_goIx_lst, e_gcLen_lst, e_gcTupleS_lst, e_gcList_lst, e_goRevA_lst, e_goIx_tup, e_gcLen_tup, e_gcTupleS_tup, e_gcList_tup, e_goRevA_tup, e_gcTuple_lst, e_goIx_str, e_gcLen_str, e_gcInt_int, e_gcInt_bl, e_goMulT_tup, e_goMulL_lst, e_goIsB_bl, e_goIsN_non, isN_int, isN_bl, isN_str, isN_tup, isN_lst, isN_dic, isN_ref, isN_ty, isN_non, gTru_k, e_truK_non, e_truK_bl, e_truK_int, e_truK_lst, e_truK_tup, e_truK_str, gFlist_k, e_lstK_lst, e_lstK_tup, gsSl_k, e_slK_lst, slK_tup, e_slK_str, itsD_k, e_itsK_lst, e_itsK_tup, giZip_k, e_zipK_lst, e_zipK_tup, giR1_k, ran1K_nat, e_ran1K_int, giR2_k, e_ran2K_int, e_goLtA_int, goLtA_tup, ok_non, eqv_bl, e_goEq_int, e_goNe_int, e_goEq_bl, e_goNe_bl, gcMin_ints, gcMinT_ints, gcMax_ints, gcMaxT_ints, intsOf_mapf, blsOf_mapf, gcMin_f, gcMax_f, gcMin_2, gcMax_2, gcSum_ints, gcSum_f, gcBls_f, all_mapid, any_mapid, at_0, at_1, at_2, at_3, at_last, noOwn_nil, noOwn_1, noOwn_2, nof_n, nof_v, nof_b, nof_s, zipD_map, enumD_map, isi_non_int, isi_non_bool, isi_non_str, isi_non_tuple, isi_non_list, isi_non_dict, isi_bl_int, isi_bl_bool, isi_bl_str, isi_bl_tuple, isi_bl_list, isi_bl_dict, isi_int_int, isi_int_bool, isi_int_str, isi_int_tuple, isi_int_list, isi_int_dict, isi_str_int, isi_str_bool, isi_str_str, isi_str_tuple, isi_str_list, isi_str_dict, isi_tup_int, isi_tup_bool, isi_tup_str, isi_tup_tuple, isi_tup_list, isi_tup_dict, isi_lst_int, isi_lst_bool, isi_lst_str, isi_lst_tuple, isi_lst_list, isi_lst_dict, isi_dic_int, isi_dic_bool, isi_dic_str, isi_dic_tuple, isi_dic_list, isi_dic_dict, gcAll, gcAny, goMod, goFdiv, decide_eq_true_eq, Bool.not_eq_true', decide_eq_false_iff_not, ite_not, Bool.and_eq_true, not_false_eq_true, Bool.not_eq_true, List.map_append, Int.zero_add, List.any_cons, List.any_nil, Bool.true_and, Bool.or_false, Bool.xor_false, Bool.false_xor, Bool.true_xor, Bool.not_not, forall_const, Int.toNat_natCast, List.length_map, List.length_append, and_self, ne_eq, List.map_eq_nil_iff, not_true_eq_false, eq_self, goMulI, goSub, goPow, goLe, goGt, goGe, guNeg, gcAbs, e_goEq_str, e_goNe_str, e_goEq_tup, e_goNe_tup, e_goEq_lst, e_goNe_lst, e_goEq_non, e_goNe_non, e_gAndV_k, e_gOrV_k, e_gCh_k, blK_bl, ite_bf, reduceCtorEq, Int.reducePow, Int.reduceLT, Int.reduceLE, Int.reduceNeg, sz0, se0, sz1, se1, sz2, se2, sz3, se3, sz4, se4, sz5, se5, sz6, se6, sz7, se7, sz8, se8, sz9, se9, e_gFld, e_fldK_ref, e_gPutF, e_gPutFM, e_putFK_ref, e_gDrf, e_drfK_ref, e_gMApp, e_mlK_ref, e_gMPop, e_popK_int, e_gMIns, ins2K_2, insK_int, e_gMeth, e_mthK_ref, e_gMake, e_giR3, e_gFlR1, e_gFlR2, e_rg2K_int, e_gLenSet, lenSetK_lst, lenSetK_tup, e_gMinD, minDK_lst, e_giMem, e_giBA, e_gMIdx, e_goTab, e_gFsort, sortK_lst, sortK_tup, e_gStep, e_stepK_lst, e_gAppM, e_gDictV, e_gFdict, e_dictK_lst, e_dictK_tup, e_dictK_dic, e_gDic0, e_gFdic0, e_gDGet1, e_gDGet2, e_dicK_dic, e_gOPut, e_gOPop, e_giKeys, e_gPconsI, e_gDispV, e_goIx_dic, e_gcLen_dic, e_lstK_dic, e_truK_dic, getK, dgetK, e_gOIns, ins2K_2, insK_int, e_gCallL, e_gAct, e_gxAct, gLamT, lamS, lam1, entryL, e_gxV, e_gItemsT, e_gFvals, e_giItems, e_gFsortD, e_sortDK_dic, kvD, goEqE_lst, goEqE_tup, List.isEmpty_cons, List.isEmpty_nil, gcReprA_1, gcStrA_1, goEqI_x, goAddB_ii, goAddB_bi, goAddB_ib, goSubB_ii, goSubB_bi, goSubB_ib, goMulB_ii, goMulB_bi, goMulB_ib, guNegB_i, guNegB_b, goMulS_x, gcIntS_1, e_gIxO, e_gFaddO, giZipX_k, zipXK_ll, zipXK_tt, zipXK_tl, zipXK_lt, goInT_tup, e_gtLst])
variable {K : PySem.W.Frag}
set_option maxHeartbeats 1000000
section
variable {neg : Bool} {w a b c d e : PySem.Str} {ws : List PySem.Str} {M : Mem} {Q : D → Mem → Prop}
theorem any_strs : ((ws.map D.str).any fun z => z.eqv (.str w)) = decide (w ∈ ws) := by
  induction ws with
  | nil => rfl
  | cons x r ih =>
    rw [List.map_cons, List.any_cons, ih, eqv_str]
    by_cases h : w = x
    · subst h
      simp
    · have h2 : ¬ x = w := fun z => h z.symm
      simp [h, h2]
theorem goIn_strsW : goIn neg (.str w) (.tup (ws.map .str)) M Q = Q (.bl (xor neg (decide (w ∈ ws)))) M := by
  show (((D.str w).flat = true ∧ (ws.map D.str).all D.flat = true) ∧ Q (.bl (xor neg ((ws.map D.str).any fun z => z.eqv (.str w)))) M) = _
  have e : (ws.map D.str).all D.flat = true := List.all_eq_true.mpr fun d hd => by
    obtain ⟨n, hn, rfl⟩ := List.mem_map.mp hd
    rfl
  rw [any_strs]
  exact propext ⟨fun h => h.2, fun q => ⟨⟨rfl, e⟩, q⟩⟩
theorem in2 : goIn neg (.str w) (.tup [.str a, .str b]) M Q = Q (.bl (xor neg (decide (w ∈ [a, b])))) M := goIn_strsW (ws := [a, b])
theorem in3 : goIn neg (.str w) (.tup [.str a, .str b, .str c]) M Q = Q (.bl (xor neg (decide (w ∈ [a, b, c])))) M := goIn_strsW (ws := [a, b, c])
end
def bits (n : Nat) : Nat := if n = 0 then 0 else n.log2 + 1
theorem bits_half {n : Nat} (h : n ≠ 0) : bits n = bits (n / 2) + 1 := by
  unfold bits
  rw [if_neg h]
  by_cases h2 : n / 2 = 0
  · rw [if_pos h2, Nat.log2_def, if_neg (by omega)]
  · rw [if_neg h2]
    congr 1
    rw [Nat.log2_def, if_pos (by omega)]
def bitI (s : Int) : Int := (bits s.toNat : Nat)
theorem bitI_half {s : Int} (h : 0 < s) : bitI s = bitI (s / 2) + 1 := by
  unfold bitI
  rw [bits_half (by omega), show (s / 2).toNat = s.toNat / 2 by omega]
  omega
theorem cdivW2 {s : Int} : CDivW s 2 := ⟨by decide, by decide +kernel⟩
theorem cdivW8 {s : Int} : CDivW s 8 := ⟨by decide, by decide +kernel⟩
theorem bitI_0 {s : Int} : 0 ≤ bitI s := Int.natCast_nonneg _
def fs_p_heap_worst (K : PySem.W.Frag) : FS := fun ds M Q _ => ∃ (w : PySem.Str) (s : Int), ds = [.str w, .int s] ∧ Q (.int (s + (if w = "put" then 2 else 1))) M
theorem mo_p_heap_worst {K : PySem.W.Frag} : MonoF (fs_p_heap_worst K) := fun _ _ _ _ _ _ h _ ⟨w, s, e, q⟩ => ⟨w, s, e, h _ _ q⟩
/-- heap_worst -/
def g_p_heap_worst (K : PySem.W.Frag) : GS := gRet (g2 goAdd (gV 1) (gIf (gB (g2 goEqA (gV 0) (gC (.str "put")))) (gC (.int 2)) (gC (.int 1))))
theorem h_p_heap_worst {K : PySem.W.Frag} : ∀ ds M Q X, (fs_p_heap_worst K) ds M Q X → ds.length = ([.v, .v] : List AK).length → g_p_heap_worst K { nx := fun _ M' => Q .non M', rt := Q } (entry 2 [.v, .v] ds X) M := by
  rintro ds M Q X ⟨w, s, rfl, q⟩ -
  wp_walk using g_p_heap_worst
  split <;> rename_i h <;> simpa [h] using q
def fs_p_halvings (K : PySem.W.Frag) : FS := fun ds M Q _ => ∃ s : Int, ds = [.int s] ∧ 0 ≤ s ∧ Q (.int (bitI s)) M
theorem mo_p_halvings {K : PySem.W.Frag} : MonoF (fs_p_halvings K) := fun _ _ _ _ _ _ h _ ⟨s, e, c, q⟩ => ⟨s, e, c, h _ _ q⟩
/-- halvings -/
def lp1_p_halvings (K : PySem.W.Frag) : GS := gSeq (gSet 0 (g2 goFdiv (gV 0) (gC (.int 2)))) (gAug 1 goPlus (gC (.int 1)))
def af1_p_halvings (K : PySem.W.Frag) : GS := gRet (gV 1)
def g_p_halvings (K : PySem.W.Frag) : GS := gSeq (gSet 1 (gC (.int 0))) (gSeq (gWhile (gB (g2 goGt (gV 0) (gC (.int 0)))) (lp1_p_halvings K)) (af1_p_halvings K))
theorem h_p_halvings {K : PySem.W.Frag} : ∀ ds M Q X, (fs_p_halvings K) ds M Q X → ds.length = ([.v] : List AK).length → g_p_halvings K { nx := fun _ M' => Q .non M', rt := Q } (entry 2 [.v] ds X) M := by
  rintro ds M Q X ⟨s, rfl, h0, q⟩ -
  wp_walk using g_p_halvings
  refine ⟨fun m r M' => M' = M ∧ ∃ s' f : Int, 0 ≤ s' ∧ m = s'.toNat ∧ f + bitI s' = bitI s ∧ r = ⟨[.v (.int s'), .v (.int f)], X⟩, ⟨_, rfl, s, 0, h0, rfl, by omega, rfl⟩, ?_⟩
  rintro m r M' ⟨rfl, s', f, h0', rfl, e, rfl⟩
  wp_walk
  by_cases hs : 0 < s'
  · rw [if_pos hs]
    wp_walk using lp1_p_halvings
    refine ⟨cdivW2, (s' / 2).toNat, ?_, s' / 2, f + 1, by omega, rfl, ?_, rfl⟩
    · omega
    · rw [bitI_half hs] at e
      omega
  · rw [if_neg hs]
    have : s' = 0 := by omega
    subst this
    rw [show bitI 0 = 0 from rfl, Int.add_zero] at e
    wp_walk using af1_p_halvings
    rw [e]
    exact q
def fs_p_line_worst (K : PySem.W.Frag) : FS := fun ds M Q _ => ∃ (w : PySem.Str) (s : Int), ds = [.str w, .int s] ∧ 0 ≤ s ∧ Q (.int (if w = "rank" then 1 + bitI s else 1 + bitI s + min s 1 + (if w = "put" then 1 + s else if w = "take" then max (s - 1) 0 else 0))) M
theorem mo_p_line_worst {K : PySem.W.Frag} : MonoF (fs_p_line_worst K) := fun _ _ _ _ _ _ h _ ⟨w, s, e, c, q⟩ => ⟨w, s, e, c, h _ _ q⟩
/-- line_worst -/
def af1_p_line_worst (K : PySem.W.Frag) : GS := gRet (g2 goAdd (gV 3) (gIf (gB (g2 goEqA (gV 0) (gC (.str "take")))) (gCa gcMaxA (gCons (g2 goSub (gV 1) (gC (.int 1))) (gCons (gC (.int 0)) gNil))) (gC (.int 0))))
def af2_p_line_worst (K : PySem.W.Frag) : GS := gSeq (gSet 3 (g2 goAdd (gV 2) (gCa gcMinA (gCons (gV 1) (gCons (gC (.int 1)) gNil))))) (gSeq (gIfS (gB (g2 goEqA (gV 0) (gC (.str "put")))) (gRet (g2 goAdd (g2 goAdd (gV 3) (gC (.int 1))) (gV 1))) (gNext)) (af1_p_line_worst K))
def cu1_p_line_worst (K : PySem.W.Frag) : GS := gSeq (gIfS (gB (g2 goEqA (gV 0) (gC (.str "rank")))) (gRet (gV 2)) (gNext)) (af2_p_line_worst K)
def g_p_line_worst (K : PySem.W.Frag) : GS := gSeq (gSet 2 (g2 goAdd (gC (.int 1)) (gCallP (fs_p_halvings K) (gCons (gV 1) gNil)))) (cu1_p_line_worst K)
theorem h_p_line_worst {K : PySem.W.Frag} : ∀ ds M Q X, (fs_p_line_worst K) ds M Q X → ds.length = ([.v, .v] : List AK).length → g_p_line_worst K { nx := fun _ M' => Q .non M', rt := Q } (entry 4 [.v, .v] ds X) M := by
  rintro ds M Q X ⟨w, s, rfl, h0, q⟩ -
  wp_walk using g_p_line_worst
  refine ⟨s, rfl, h0, ?_⟩
  wp_walk using cu1_p_line_worst, af2_p_line_worst, af1_p_line_worst
  (repeat' split) <;> (first | exact q | (refine cast ?_ q; congr 2; first | (simp_all; done) | (simp_all; omega) | ((repeat' split) <;> first | (simp_all; done) | (simp_all; omega))))
def fs_p_tiers_of (K : PySem.W.Frag) : FS := fun ds M Q _ => ∃ s : Int, ds = [.int s] ∧ 0 ≤ s ∧ Q (.int ((s + 7) / 8)) M
theorem mo_p_tiers_of {K : PySem.W.Frag} : MonoF (fs_p_tiers_of K) := fun _ _ _ _ _ _ h _ ⟨s, e, c, q⟩ => ⟨s, e, c, h _ _ q⟩
/-- tiers_of -/
def g_p_tiers_of (K : PySem.W.Frag) : GS := gRet (g2 goFdiv (g2 goSub (g2 goAdd (gV 0) (gC (.int 8))) (gC (.int 1))) (gC (.int 8)))
theorem h_p_tiers_of {K : PySem.W.Frag} : ∀ ds M Q X, (fs_p_tiers_of K) ds M Q X → ds.length = ([.v] : List AK).length → g_p_tiers_of K { nx := fun _ M' => Q .non M', rt := Q } (entry 1 [.v] ds X) M := by
  rintro ds M Q X ⟨s, rfl, h0, q⟩ -
  wp_walk using g_p_tiers_of
  refine ⟨cdivW8, ?_⟩
  rw [show s + 8 - 1 = s + 7 by omega]
  exact q
def heapW (w : PySem.Str) (s : Int) : Int := s + (if w = "put" then 2 else 1)
def lineW (w : PySem.Str) (s : Int) : Int := if w = "rank" then 1 + bitI s else 1 + bitI s + min s 1 + (if w = "put" then 1 + s else if w = "take" then max (s - 1) 0 else 0)
def tiersW (w : PySem.Str) (s : Int) : Int := if w = "rank" then 1 + bitI ((s + 7) / 8) + bitI (min s 8) else 1 + bitI ((s + 7) / 8) + bitI (min s 8) + min s 1 + (if w = "put" then 1 + min s 8 + max ((s + 7) / 8 - 1) 0 else if w = "take" then min (max (s - 1) 0) 7 + max ((s + 7) / 8 - 1) 0 else 0)
def pailsW (w : PySem.Str) (s : Int) : Int := if w ∈ (["next", "rank"] : List PySem.Str) then 9 + s else heapW w s
def treeW (w : PySem.Str) (s : Int) : Int := if w = "put" then 2 + 2 * s else 1 + s + (if w = "take" then max (s - 1) 0 else 0)
def setW (k w : PySem.Str) (s : Int) : Int := if k = "heap" then heapW w s else if k = "line" then lineW w s else if k = "tiers" then tiersW w s else if k = "pails" then pailsW w s else treeW w s
def chainW (w : PySem.Str) (s : Int) : Int := if w = "into" then 2 + s / 2 else 1 + (s + 1) / 2 + (if w = "out" then min s 1 else 0)
def blocksW (w : PySem.Str) (s : Int) : Int := if w = "at" then 1 + min s 1 else if w = "into" then 2 + min s 8 + max ((s + 7) / 8 - 1) 0 else 1 + min (max (s - 1) 0) 7 + max ((s + 7) / 8 - 1) 0
def stripW (w : PySem.Str) (s : Int) : Int := if w = "into" then 2 + s else 1 + max (s - 1) 0
def rowW (k w : PySem.Str) (s : Int) : Int := if w = "find" then 1 + s else if k = "chain" then chainW w s else if k = "blocks" then blocksW w s else if w = "at" then 1 else stripW w s
def fs_p_tiers_worst (K : PySem.W.Frag) : FS := fun ds M Q _ => ∃ (w : PySem.Str) (s : Int), ds = [.str w, .int s] ∧ 0 ≤ s ∧ Q (.int (tiersW w s)) M
theorem mo_p_tiers_worst {K : PySem.W.Frag} : MonoF (fs_p_tiers_worst K) := fun _ _ _ _ _ _ h _ ⟨w, s, e, c, q⟩ => ⟨w, s, e, c, h _ _ q⟩
/-- tiers_worst -/
def af1_p_tiers_worst (K : PySem.W.Frag) : GS := gRet (gV 3)
def af2_p_tiers_worst (K : PySem.W.Frag) : GS := gSeq (gIfS (gB (g2 goEqA (gV 0) (gC (.str "take")))) (gRet (g2 goAdd (g2 goAdd (gV 3) (gCa gcMinA (gCons (gCa gcMaxA (gCons (g2 goSub (gV 1) (gC (.int 1))) (gCons (gC (.int 0)) gNil))) (gCons (g2 goSub (gC (.int 8)) (gC (.int 1))) gNil)))) (gV 4))) (gNext)) (af1_p_tiers_worst K)
def cu1_p_tiers_worst (K : PySem.W.Frag) : GS := gSeq (gIfS (gB (g2 goEqA (gV 0) (gC (.str "put")))) (gRet (g2 goAdd (g2 goAdd (g2 goAdd (gV 3) (gC (.int 1))) (gCa gcMinA (gCons (gV 1) (gCons (gC (.int 8)) gNil)))) (gV 4))) (gNext)) (af2_p_tiers_worst K)
def af3_p_tiers_worst (K : PySem.W.Frag) : GS := gSeq (gSet 3 (g2 goAdd (gV 2) (gCa gcMinA (gCons (gV 1) (gCons (gC (.int 1)) gNil))))) (gSeq (gSet 4 (gCa gcMaxA (gCons (g2 goSub (gCallP (fs_p_tiers_of K) (gCons (gV 1) gNil)) (gC (.int 1))) (gCons (gC (.int 0)) gNil)))) (cu1_p_tiers_worst K))
def cu2_p_tiers_worst (K : PySem.W.Frag) : GS := gSeq (gIfS (gB (g2 goEqA (gV 0) (gC (.str "rank")))) (gRet (gV 2)) (gNext)) (af3_p_tiers_worst K)
def g_p_tiers_worst (K : PySem.W.Frag) : GS := gSeq (gSet 2 (g2 goAdd (g2 goAdd (gC (.int 1)) (gCallP (fs_p_halvings K) (gCons (gCallP (fs_p_tiers_of K) (gCons (gV 1) gNil)) gNil))) (gCallP (fs_p_halvings K) (gCons (gCa gcMinA (gCons (gV 1) (gCons (gC (.int 8)) gNil))) gNil)))) (cu2_p_tiers_worst K)
theorem h_p_tiers_worst {K : PySem.W.Frag} : ∀ ds M Q X, (fs_p_tiers_worst K) ds M Q X → ds.length = ([.v, .v] : List AK).length → g_p_tiers_worst K { nx := fun _ M' => Q .non M', rt := Q } (entry 5 [.v, .v] ds X) M := by
  rintro ds M Q X ⟨w, s, rfl, h0, q⟩ -
  wp_walk using g_p_tiers_worst
  refine ⟨s, rfl, h0, (s + 7) / 8, rfl, by omega, ?_⟩
  wp_walk
  refine ⟨_, rfl, by omega, ?_⟩
  wp_walk using cu2_p_tiers_worst
  unfold tiersW at q
  by_cases hr : w = "rank"
  · rw [if_pos hr]
    rw [if_pos hr] at q
    exact q
  rw [if_neg hr]
  rw [if_neg hr] at q
  wp_walk using af3_p_tiers_worst
  refine ⟨s, rfl, h0, ?_⟩
  wp_walk using cu1_p_tiers_worst, af2_p_tiers_worst, af1_p_tiers_worst
  (repeat' split) <;> (first | exact q | (refine cast ?_ q; congr 2; first | (simp_all; done) | (simp_all; omega) | ((repeat' split) <;> first | (simp_all; done) | (simp_all; omega))))
def fs_p_pails_worst (K : PySem.W.Frag) : FS := fun ds M Q _ => ∃ (w : PySem.Str) (s : Int), ds = [.str w, .int s] ∧ Q (.int (pailsW w s)) M
theorem mo_p_pails_worst {K : PySem.W.Frag} : MonoF (fs_p_pails_worst K) := fun _ _ _ _ _ _ h _ ⟨w, s, e, q⟩ => ⟨w, s, e, h _ _ q⟩
/-- pails_worst -/
def af1_p_pails_worst (K : PySem.W.Frag) : GS := gRet (gCallP (fs_p_heap_worst K) (gCons (gV 0) (gCons (gV 1) gNil)))
def g_p_pails_worst (K : PySem.W.Frag) : GS := gSeq (gIfS (gB (g2 (goIn false) (gV 0) (gTup (gCons (gC (.str "next")) (gCons (gC (.str "rank")) gNil))))) (gRet (g2 goAdd (g2 goAdd (gC (.int 1)) (gC (.int 8))) (gV 1))) (gNext)) (af1_p_pails_worst K)
theorem h_p_pails_worst {K : PySem.W.Frag} : ∀ ds M Q X, (fs_p_pails_worst K) ds M Q X → ds.length = ([.v, .v] : List AK).length → g_p_pails_worst K { nx := fun _ M' => Q .non M', rt := Q } (entry 2 [.v, .v] ds X) M := by
  rintro ds M Q X ⟨w, s, rfl, q⟩ -
  unfold pailsW at q
  wp_walk using g_p_pails_worst, in2
  by_cases h : w ∈ (["next", "rank"] : List PySem.Str)
  · rw [if_pos h] at q ⊢
    rw [show 1 + 8 + s = 9 + s by omega]
    exact q
  · rw [if_neg h] at q ⊢
    wp_walk using af1_p_pails_worst
    exact ⟨w, s, rfl, q⟩
def fs_p_tree_worst (K : PySem.W.Frag) : FS := fun ds M Q _ => ∃ (w : PySem.Str) (s : Int), ds = [.str w, .int s] ∧ 0 ≤ s ∧ s ≤ 1000 ∧ Q (.int (treeW w s)) M
theorem mo_p_tree_worst {K : PySem.W.Frag} : MonoF (fs_p_tree_worst K) := fun _ _ _ _ _ _ h _ ⟨w, s, e, c, c2, q⟩ => ⟨w, s, e, c, c2, h _ _ q⟩
/-- tree_worst -/
def af1_p_tree_worst (K : PySem.W.Frag) : GS := gRet (g2 goAdd (g2 goAdd (gC (.int 1)) (gV 1)) (gIf (gB (g2 goEqA (gV 0) (gC (.str "take")))) (gCa gcMaxA (gCons (g2 goSub (gV 1) (gC (.int 1))) (gCons (gC (.int 0)) gNil))) (gC (.int 0))))
def g_p_tree_worst (K : PySem.W.Frag) : GS := gSeq (gIfS (gB (g2 goEqA (gV 0) (gC (.str "put")))) (gRet (g2 goAdd (gC (.int 2)) (g2 goMulI (gC (.int 2)) (gV 1)))) (gNext)) (af1_p_tree_worst K)
theorem h_p_tree_worst {K : PySem.W.Frag} : ∀ ds M Q X, (fs_p_tree_worst K) ds M Q X → ds.length = ([.v, .v] : List AK).length → g_p_tree_worst K { nx := fun _ M' => Q .non M', rt := Q } (entry 2 [.v, .v] ds X) M := by
  rintro ds M Q X ⟨w, s, rfl, h0, h1, q⟩ -
  unfold treeW at q
  wp_walk using g_p_tree_worst
  by_cases hp : w = "put"
  · rw [if_pos hp] at q
    rw [if_pos hp]
    exact ⟨.inl ⟨by decide, by decide⟩, q⟩
  rw [if_neg hp] at q
  rw [if_neg hp]
  wp_walk using af1_p_tree_worst
  (repeat' split) <;> (first | exact q | (refine cast ?_ q; congr 2; first | (simp_all; done) | (simp_all; omega) | ((repeat' split) <;> first | (simp_all; done) | (simp_all; omega))))
def fs_p_set_worst (K : PySem.W.Frag) : FS := fun ds M Q _ => ∃ (k w : PySem.Str) (s : Int), ds = [.str k, .str w, .int s] ∧ 0 ≤ s ∧ s ≤ 1000 ∧ Q (.int (setW k w s)) M
theorem mo_p_set_worst {K : PySem.W.Frag} : MonoF (fs_p_set_worst K) := fun _ _ _ _ _ _ h _ ⟨k, w, s, e, c, c2, q⟩ => ⟨k, w, s, e, c, c2, h _ _ q⟩
/-- set_worst -/
def af1_p_set_worst (K : PySem.W.Frag) : GS := gRet (gIf (gB (g2 goEqA (gV 0) (gC (.str "pails")))) (gCallP (fs_p_pails_worst K) (gCons (gV 1) (gCons (gV 2) gNil))) (gCallP (fs_p_tree_worst K) (gCons (gV 1) (gCons (gV 2) gNil))))
def af2_p_set_worst (K : PySem.W.Frag) : GS := gSeq (gIfS (gB (g2 goEqA (gV 0) (gC (.str "tiers")))) (gRet (gCallP (fs_p_tiers_worst K) (gCons (gV 1) (gCons (gV 2) gNil)))) (gNext)) (af1_p_set_worst K)
def af3_p_set_worst (K : PySem.W.Frag) : GS := gSeq (gIfS (gB (g2 goEqA (gV 0) (gC (.str "line")))) (gRet (gCallP (fs_p_line_worst K) (gCons (gV 1) (gCons (gV 2) gNil)))) (gNext)) (af2_p_set_worst K)
def g_p_set_worst (K : PySem.W.Frag) : GS := gSeq (gIfS (gB (g2 goEqA (gV 0) (gC (.str "heap")))) (gRet (gCallP (fs_p_heap_worst K) (gCons (gV 1) (gCons (gV 2) gNil)))) (gNext)) (af3_p_set_worst K)
theorem h_p_set_worst {K : PySem.W.Frag} : ∀ ds M Q X, (fs_p_set_worst K) ds M Q X → ds.length = ([.v, .v, .v] : List AK).length → g_p_set_worst K { nx := fun _ M' => Q .non M', rt := Q } (entry 3 [.v, .v, .v] ds X) M := by
  rintro ds M Q X ⟨k, w, s, rfl, h0, h1, q⟩ -
  unfold setW at q
  wp_walk using g_p_set_worst, af3_p_set_worst, af2_p_set_worst, af1_p_set_worst
  by_cases h2 : k = "heap"
  · rw [if_pos h2] at q ⊢
    exact ⟨w, s, rfl, q⟩
  rw [if_neg h2] at q ⊢
  by_cases h2 : k = "line"
  · rw [if_pos h2] at q ⊢
    exact ⟨w, s, rfl, h0, q⟩
  rw [if_neg h2] at q ⊢
  by_cases h2 : k = "tiers"
  · rw [if_pos h2] at q ⊢
    exact ⟨w, s, rfl, h0, q⟩
  rw [if_neg h2] at q ⊢
  by_cases h2 : k = "pails"
  · rw [if_pos h2] at q ⊢
    exact ⟨w, s, rfl, q⟩
  rw [if_neg h2] at q ⊢
  exact ⟨w, s, rfl, h0, h1, q⟩
def kv_KINDS (K : PySem.W.Frag) : List (PySem.Str × D) := [("set", .tup [.str "heap", .str "line", .str "tiers", .str "pails", .str "tree"]), ("row", .tup [.str "strip", .str "chain", .str "blocks"]), ("map", .tup [.str "heap", .str "line", .str "tiers", .str "pails", .str "tree"])]
def kindsW (so : So) : List PySem.Str := match so with
  | .row => ["strip", "chain", "blocks"]
  | _ => ["heap", "line", "tiers", "pails", "tree"]
def fs_p_kinds_of (K : PySem.W.Frag) : FS := fun ds M Q X => ∃ d : D, ds = [d] ∧ d.da = true ∧ (isSort d = false → X (He.ga K "NoSort") M) ∧ ∀ so : So, d = .str so.s → Q (.tup ((kindsW so).map .str)) M
theorem mo_p_kinds_of {K : PySem.W.Frag} : MonoF (fs_p_kinds_of K) := fun _ _ _ _ _ _ h hx ⟨d, e, c, qx, q⟩ => ⟨d, e, c, fun z => hx _ _ (qx z), fun so e => h _ _ (q so e)⟩
/-- kinds_of -/
def cu1_p_kinds_of (K : PySem.W.Frag) : GS := gRet (gTabIx (kv_KINDS K) (gV 0))
def g_p_kinds_of (K : PySem.W.Frag) : GS := gSeq (gDrop (gCallP (fs_p_need_sort K) (gCons (gV 0) gNil))) (cu1_p_kinds_of K)
theorem h_p_kinds_of {K : PySem.W.Frag} : ∀ ds M Q X, (fs_p_kinds_of K) ds M Q X → ds.length = ([.v] : List AK).length → g_p_kinds_of K { nx := fun _ M' => Q .non M', rt := Q } (entry 1 [.v] ds X) M := by
  rintro ds M Q X ⟨d, rfl, hd, qx, q⟩ -
  wp_walk using g_p_kinds_of
  refine ⟨d, rfl, hd, fun z => ?_, qx⟩
  obtain ⟨so, rfl⟩ := isSort_iff z
  have q := q so rfl
  have e : (kv_KINDS K).lookup so.s = some (.tup ((kindsW so).map .str)) := by cases so <;> rfl
  wp_walk using cu1_p_kinds_of, gTabIx, e
  exact q
def fs_p_chain_worst (K : PySem.W.Frag) : FS := fun ds M Q _ => ∃ (w : PySem.Str) (s : Int), ds = [.str w, .int s] ∧ Q (.int (chainW w s)) M
theorem mo_p_chain_worst {K : PySem.W.Frag} : MonoF (fs_p_chain_worst K) := fun _ _ _ _ _ _ h _ ⟨w, s, e, q⟩ => ⟨w, s, e, h _ _ q⟩
/-- chain_worst -/
def af1_p_chain_worst (K : PySem.W.Frag) : GS := gSeq (gSet 2 (g2 goAdd (gC (.int 1)) (g2 goFdiv (g2 goAdd (gV 1) (gC (.int 1))) (gC (.int 2))))) (gRet (g2 goAdd (gV 2) (gIf (gB (g2 goEqA (gV 0) (gC (.str "out")))) (gCa gcMinA (gCons (gV 1) (gCons (gC (.int 1)) gNil))) (gC (.int 0)))))
def g_p_chain_worst (K : PySem.W.Frag) : GS := gSeq (gIfS (gB (g2 goEqA (gV 0) (gC (.str "into")))) (gRet (g2 goAdd (gC (.int 2)) (g2 goFdiv (gV 1) (gC (.int 2))))) (gNext)) (af1_p_chain_worst K)
theorem h_p_chain_worst {K : PySem.W.Frag} : ∀ ds M Q X, (fs_p_chain_worst K) ds M Q X → ds.length = ([.v, .v] : List AK).length → g_p_chain_worst K { nx := fun _ M' => Q .non M', rt := Q } (entry 3 [.v, .v] ds X) M := by
  rintro ds M Q X ⟨w, s, rfl, q⟩ -
  unfold chainW at q
  wp_walk using g_p_chain_worst
  by_cases hp : w = "into"
  · rw [if_pos hp] at q ⊢
    exact ⟨cdivW2, q⟩
  rw [if_neg hp] at q ⊢
  wp_walk using af1_p_chain_worst
  refine ⟨cdivW2, ?_⟩
  (repeat' split) <;> (first | exact q | (refine cast ?_ q; congr 2; first | (simp_all; done) | (simp_all; omega) | ((repeat' split) <;> first | (simp_all; done) | (simp_all; omega))))
def fs_p_blocks_worst (K : PySem.W.Frag) : FS := fun ds M Q _ => ∃ (w : PySem.Str) (s : Int), ds = [.str w, .int s] ∧ 0 ≤ s ∧ Q (.int (blocksW w s)) M
theorem mo_p_blocks_worst {K : PySem.W.Frag} : MonoF (fs_p_blocks_worst K) := fun _ _ _ _ _ _ h _ ⟨w, s, e, c, q⟩ => ⟨w, s, e, c, h _ _ q⟩
/-- blocks_worst -/
def af1_p_blocks_worst (K : PySem.W.Frag) : GS := gRet (g2 goAdd (g2 goAdd (gC (.int 1)) (gCa gcMinA (gCons (gCa gcMaxA (gCons (g2 goSub (gV 1) (gC (.int 1))) (gCons (gC (.int 0)) gNil))) (gCons (g2 goSub (gC (.int 8)) (gC (.int 1))) gNil)))) (gV 2))
def cu1_p_blocks_worst (K : PySem.W.Frag) : GS := gSeq (gIfS (gB (g2 goEqA (gV 0) (gC (.str "into")))) (gRet (g2 goAdd (g2 goAdd (gC (.int 2)) (gCa gcMinA (gCons (gV 1) (gCons (gC (.int 8)) gNil)))) (gV 2))) (gNext)) (af1_p_blocks_worst K)
def af2_p_blocks_worst (K : PySem.W.Frag) : GS := gSeq (gSet 2 (gCa gcMaxA (gCons (g2 goSub (gCallP (fs_p_tiers_of K) (gCons (gV 1) gNil)) (gC (.int 1))) (gCons (gC (.int 0)) gNil)))) (cu1_p_blocks_worst K)
def g_p_blocks_worst (K : PySem.W.Frag) : GS := gSeq (gIfS (gB (g2 goEqA (gV 0) (gC (.str "at")))) (gRet (g2 goAdd (gC (.int 1)) (gCa gcMinA (gCons (gV 1) (gCons (gC (.int 1)) gNil))))) (gNext)) (af2_p_blocks_worst K)
theorem h_p_blocks_worst {K : PySem.W.Frag} : ∀ ds M Q X, (fs_p_blocks_worst K) ds M Q X → ds.length = ([.v, .v] : List AK).length → g_p_blocks_worst K { nx := fun _ M' => Q .non M', rt := Q } (entry 3 [.v, .v] ds X) M := by
  rintro ds M Q X ⟨w, s, rfl, h0, q⟩ -
  unfold blocksW at q
  wp_walk using g_p_blocks_worst
  by_cases hp : w = "at"
  · rw [if_pos hp] at q ⊢
    exact q
  rw [if_neg hp] at q ⊢
  wp_walk using af2_p_blocks_worst
  refine ⟨s, rfl, h0, ?_⟩
  wp_walk using cu1_p_blocks_worst, af1_p_blocks_worst
  (repeat' split) <;> (first | exact q | (refine cast ?_ q; congr 2; first | (simp_all; done) | (simp_all; omega) | ((repeat' split) <;> first | (simp_all; done) | (simp_all; omega))))
def fs_p_strip_worst (K : PySem.W.Frag) : FS := fun ds M Q _ => ∃ (w : PySem.Str) (s : Int), ds = [.str w, .int s] ∧ Q (.int (stripW w s)) M
theorem mo_p_strip_worst {K : PySem.W.Frag} : MonoF (fs_p_strip_worst K) := fun _ _ _ _ _ _ h _ ⟨w, s, e, q⟩ => ⟨w, s, e, h _ _ q⟩
/-- strip_worst -/
def g_p_strip_worst (K : PySem.W.Frag) : GS := gRet (gIf (gB (g2 goEqA (gV 0) (gC (.str "into")))) (g2 goAdd (gC (.int 2)) (gV 1)) (g2 goAdd (gC (.int 1)) (gCa gcMaxA (gCons (g2 goSub (gV 1) (gC (.int 1))) (gCons (gC (.int 0)) gNil)))))
theorem h_p_strip_worst {K : PySem.W.Frag} : ∀ ds M Q X, (fs_p_strip_worst K) ds M Q X → ds.length = ([.v, .v] : List AK).length → g_p_strip_worst K { nx := fun _ M' => Q .non M', rt := Q } (entry 2 [.v, .v] ds X) M := by
  rintro ds M Q X ⟨w, s, rfl, q⟩ -
  unfold stripW at q
  wp_walk using g_p_strip_worst
  (repeat' split) <;> (first | exact q | (refine cast ?_ q; congr 2; first | (simp_all; done) | (simp_all; omega) | ((repeat' split) <;> first | (simp_all; done) | (simp_all; omega))))
def fs_p_row_worst (K : PySem.W.Frag) : FS := fun ds M Q _ => ∃ (k w : PySem.Str) (s : Int), ds = [.str k, .str w, .int s] ∧ 0 ≤ s ∧ Q (.int (rowW k w s)) M
theorem mo_p_row_worst {K : PySem.W.Frag} : MonoF (fs_p_row_worst K) := fun _ _ _ _ _ _ h _ ⟨k, w, s, e, c, q⟩ => ⟨k, w, s, e, c, h _ _ q⟩
/-- row_worst -/
def af1_p_row_worst (K : PySem.W.Frag) : GS := gRet (gIf (gB (g2 goEqA (gV 1) (gC (.str "at")))) (gC (.int 1)) (gCallP (fs_p_strip_worst K) (gCons (gV 1) (gCons (gV 2) gNil))))
def af2_p_row_worst (K : PySem.W.Frag) : GS := gSeq (gIfS (gB (g2 goEqA (gV 0) (gC (.str "blocks")))) (gRet (gCallP (fs_p_blocks_worst K) (gCons (gV 1) (gCons (gV 2) gNil)))) (gNext)) (af1_p_row_worst K)
def af3_p_row_worst (K : PySem.W.Frag) : GS := gSeq (gIfS (gB (g2 goEqA (gV 0) (gC (.str "chain")))) (gRet (gCallP (fs_p_chain_worst K) (gCons (gV 1) (gCons (gV 2) gNil)))) (gNext)) (af2_p_row_worst K)
def g_p_row_worst (K : PySem.W.Frag) : GS := gSeq (gIfS (gB (g2 goEqA (gV 1) (gC (.str "find")))) (gRet (g2 goAdd (gC (.int 1)) (gV 2))) (gNext)) (af3_p_row_worst K)
theorem h_p_row_worst {K : PySem.W.Frag} : ∀ ds M Q X, (fs_p_row_worst K) ds M Q X → ds.length = ([.v, .v, .v] : List AK).length → g_p_row_worst K { nx := fun _ M' => Q .non M', rt := Q } (entry 3 [.v, .v, .v] ds X) M := by
  rintro ds M Q X ⟨k, w, s, rfl, h0, q⟩ -
  unfold rowW at q
  wp_walk using g_p_row_worst, af3_p_row_worst, af2_p_row_worst, af1_p_row_worst
  by_cases h2 : w = "find"
  · rw [if_pos h2] at q ⊢
    exact q
  rw [if_neg h2] at q ⊢
  by_cases h2 : k = "chain"
  · rw [if_pos h2] at q ⊢
    exact ⟨w, s, rfl, q⟩
  rw [if_neg h2] at q ⊢
  by_cases h2 : k = "blocks"
  · rw [if_pos h2] at q ⊢
    exact ⟨w, s, rfl, h0, q⟩
  rw [if_neg h2] at q ⊢
  by_cases h2 : w = "at"
  · rw [if_pos h2] at q ⊢
    exact q
  rw [if_neg h2] at q ⊢
  exact ⟨w, s, rfl, q⟩
def wordsW (so : So) : List PySem.Str := match so with
  | .set => ["put", "take", "has", "next", "rank"]
  | .row => ["at", "into", "out", "find"]
  | .map => ["set", "get", "drop", "next"]
def fs_p_words_of (K : PySem.W.Frag) : FS := fun ds M Q _ => ∃ so : So, ds = [.str so.s] ∧ Q (.tup ((wordsW so).map .str)) M
theorem mo_p_words_of {K : PySem.W.Frag} : MonoF (fs_p_words_of K) := fun _ _ _ _ _ _ h _ ⟨so, e, q⟩ => ⟨so, e, h _ _ q⟩
/-- words_of -/
def af1_p_words_of (K : PySem.W.Frag) : GS := gRet (gIf (gB (g2 goEqA (gV 0) (gC (.str "row")))) (gTup (gCons (gC (.str "at")) (gCons (gC (.str "into")) (gCons (gC (.str "out")) (gCons (gC (.str "find")) gNil))))) (gTup (gCons (gC (.str "set")) (gCons (gC (.str "get")) (gCons (gC (.str "drop")) (gCons (gC (.str "next")) gNil))))))
def g_p_words_of (K : PySem.W.Frag) : GS := gSeq (gIfS (gB (g2 goEqA (gV 0) (gC (.str "set")))) (gRet (gTup (gCons (gC (.str "put")) (gCons (gC (.str "take")) (gCons (gC (.str "has")) (gCons (gC (.str "next")) (gCons (gC (.str "rank")) gNil))))))) (gNext)) (af1_p_words_of K)
theorem h_p_words_of {K : PySem.W.Frag} : ∀ ds M Q X, (fs_p_words_of K) ds M Q X → ds.length = ([.v] : List AK).length → g_p_words_of K { nx := fun _ M' => Q .non M', rt := Q } (entry 1 [.v] ds X) M := by
  rintro ds M Q X ⟨so, rfl, q⟩ -
  cases so
  case set =>
    wp_walk using g_p_words_of, So.s
    exact q
  case row =>
    wp_walk using g_p_words_of, So.s, af1_p_words_of
    rw [if_neg (by decide)]
    exact q
  case map =>
    wp_walk using g_p_words_of, So.s, af1_p_words_of
    rw [if_neg (by decide), if_neg (by decide)]
    exact q
def sizeB (d : D) (m : Int) : Bool := match d with
  | .int x => decide (0 ≤ x) && decide (x ≤ m)
  | _ => false
def fs_p_is_size (K : PySem.W.Frag) : FS := fun ds M Q _ => ∃ (d : D) (m : Int), ds = [d, .int m] ∧ d.da = true ∧ Q (.bl (sizeB d m)) M
theorem mo_p_is_size {K : PySem.W.Frag} : MonoF (fs_p_is_size K) := fun _ _ _ _ _ _ h _ ⟨x, m, e, c, q⟩ => ⟨x, m, e, c, h _ _ q⟩
/-- is_size -/
def g_p_is_size (K : PySem.W.Frag) : GS := gRet (gAndV (gCa gcIsi (gCons (gV 0) (gCons (gC (.ty "int")) gNil))) (gAndV (gNotV (gCa gcIsi (gCons (gV 0) (gCons (gC (.ty "bool")) gNil)))) (gCh goLe goLe (gC (.int 0)) (gV 0) (gV 1))))
theorem h_p_is_size {K : PySem.W.Frag} : ∀ ds M Q X, (fs_p_is_size K) ds M Q X → ds.length = ([.v, .v] : List AK).length → g_p_is_size K { nx := fun _ M' => Q .non M', rt := Q } (entry 2 [.v, .v] ds X) M := by
  rintro ds M Q X ⟨d, m, rfl, ht, q⟩ -
  cases d
  case int x =>
    wp_walk using g_p_is_size
    by_cases h : 0 ≤ x
    · simpa [sizeB, h] using q
    · simpa [sizeB, h] using q
  case ref => simp [D.da] at ht
  case ty => simp [D.da] at ht
  all_goals
    wp_walk using g_p_is_size
    exact q
def keyW (w : PySem.Str) : PySem.Str := if w = "set" then "put" else if w = "get" then "has" else if w = "drop" then "take" else "next"
def fs_p_key_word (K : PySem.W.Frag) : FS := fun ds M Q _ => ∃ w : PySem.Str, ds = [.str w] ∧ Q (.str (keyW w)) M
theorem mo_p_key_word {K : PySem.W.Frag} : MonoF (fs_p_key_word K) := fun _ _ _ _ _ _ h _ ⟨w, e, q⟩ => ⟨w, e, h _ _ q⟩
/-- key_word -/
def af1_p_key_word (K : PySem.W.Frag) : GS := gRet (gIf (gB (g2 goEqA (gV 0) (gC (.str "drop")))) (gC (.str "take")) (gC (.str "next")))
def af2_p_key_word (K : PySem.W.Frag) : GS := gSeq (gIfS (gB (g2 goEqA (gV 0) (gC (.str "get")))) (gRet (gC (.str "has"))) (gNext)) (af1_p_key_word K)
def g_p_key_word (K : PySem.W.Frag) : GS := gSeq (gIfS (gB (g2 goEqA (gV 0) (gC (.str "set")))) (gRet (gC (.str "put"))) (gNext)) (af2_p_key_word K)
theorem h_p_key_word {K : PySem.W.Frag} : ∀ ds M Q X, (fs_p_key_word K) ds M Q X → ds.length = ([.v] : List AK).length → g_p_key_word K { nx := fun _ M' => Q .non M', rt := Q } (entry 1 [.v] ds X) M := by
  rintro ds M Q X ⟨w, rfl, q⟩ -
  unfold keyW at q
  wp_walk using g_p_key_word, af2_p_key_word, af1_p_key_word
  (repeat' split) <;> (first | exact q | (refine cast ?_ q; congr 2; first | (simp_all; done) | (simp_all; omega) | ((repeat' split) <;> first | (simp_all; done) | (simp_all; omega))))
/-- what p_worst answers -/
def worstW (so : So) (k w : PySem.Str) (s : Int) : Int := match so with
  | .row => rowW k w s
  | .map => setW k (keyW w) s + (if w = "set" then 1 else 0)
  | .set => setW k w s
def hasS (ws : List PySem.Str) (d : D) : Bool := match d with
  | .str w => decide (w ∈ ws)
  | _ => false
theorem eqv_strs {d : D} {ws : List PySem.Str} (h : d.da = true) : ((ws.map D.str).any fun z => z.eqv d) = hasS ws d := by
  cases d
  case str w => exact any_strs
  case ref => simp [D.da] at h
  case ty => simp [D.da] at h
  all_goals
    refine List.any_eq_false.mpr fun z hz => ?_
    obtain ⟨w, _, rfl⟩ := List.mem_map.mp hz
    exact (by decide : ¬ (false = true))
theorem ok_kinds (so : So) : D.ok (.tup ((kindsW so).map .str)) = true := by cases so <;> decide +kernel
theorem sizeB_iff {d : D} {m : Int} (h : sizeB d m = true) : ∃ s, d = .int s ∧ 0 ≤ s ∧ s ≤ m := by
  cases d <;> first | (cases h; done) | skip
  rename_i x
  exact ⟨x, rfl, by simpa [sizeB] using h⟩
theorem hasS_iff {d : D} {ws : List PySem.Str} (h : hasS ws d = true) : ∃ w, d = .str w ∧ w ∈ ws := by
  cases d <;> first | (cases h; done) | skip
  rename_i x
  exact ⟨x, rfl, of_decide_eq_true h⟩
def fs_p_worst (K : PySem.W.Frag) : FS := fun ds M Q X => ∃ a b c d : D, ds = [a, b, c, d] ∧ a.da = true ∧ (b.da = true ∧ b.ok = true) ∧ c.da = true ∧ d.da = true ∧ (isSort a = false → X (He.ga K "NoSort") M) ∧
  ∀ so : So, a = .str so.s → (hasS (kindsW so) b = false → X (He.ga K "NoKind") M) ∧ ∀ k, b = .str k → k ∈ kindsW so → (hasS (wordsW so) c = false ∨ sizeB d 40 = false → X (He.ga K "NoDeed") M) ∧
    ∀ w s, c = .str w → d = .int s → w ∈ wordsW so → 0 ≤ s → s ≤ 40 → Q (.int (worstW so k w s)) M
theorem mo_p_worst {K : PySem.W.Frag} : MonoF (fs_p_worst K) := fun _ _ _ _ _ _ h hx ⟨a, b, c, d, e, c1, c2, c3, c4, qx, q⟩ => ⟨a, b, c, d, e, c1, c2, c3, c4, fun z => hx _ _ (qx z), fun so e => ⟨fun z => hx _ _ ((q so e).1 z), fun k e2 hk => ⟨fun z => hx _ _ (((q so e).2 k e2 hk).1 z), fun w s e3 e4 h1 h2 h3 => h _ _ (((q so e).2 k e2 hk).2 w s e3 e4 h1 h2 h3)⟩⟩⟩
/-- worst -/
def af1_p_worst (K : PySem.W.Frag) : GS := gRet (gCallP (fs_p_set_worst K) (gCons (gV 1) (gCons (gV 2) (gCons (gV 3) gNil))))
def af2_p_worst (K : PySem.W.Frag) : GS := gSeq (gIfS (gB (g2 goEqA (gV 0) (gC (.str "map")))) (gRet (g2 goAdd (gCallP (fs_p_set_worst K) (gCons (gV 1) (gCons (gCallP (fs_p_key_word K) (gCons (gV 2) gNil)) (gCons (gV 3) gNil)))) (gIf (gB (g2 goEqA (gV 2) (gC (.str "set")))) (gC (.int 1)) (gC (.int 0))))) (gNext)) (af1_p_worst K)
def af3_p_worst (K : PySem.W.Frag) : GS := gSeq (gIfS (gB (g2 goEqA (gV 0) (gC (.str "row")))) (gRet (gCallP (fs_p_row_worst K) (gCons (gV 1) (gCons (gV 2) (gCons (gV 3) gNil))))) (gNext)) (af2_p_worst K)
def af4_p_worst (K : PySem.W.Frag) : GS := gSeq (gIfS (gOr (gNot (gTru (gCa gcIsi (gCons (gV 2) (gCons (gC (.ty "str")) gNil))))) (gOr (gB (g2 (goIn true) (gV 2) (gCallP (fs_p_words_of K) (gCons (gV 0) gNil)))) (gNot (gTru (gCallP (fs_p_is_size K) (gCons (gV 3) (gCons (gC (.int 40)) gNil))))))) (gRaise (He.ga K "NoDeed")) (gNext)) (af3_p_worst K)
def g_p_worst (K : PySem.W.Frag) : GS := gSeq (gIfS (gB (g2 (goInT true) (gV 1) (gCallP (fs_p_kinds_of K) (gCons (gV 0) gNil)))) (gRaise (He.ga K "NoKind")) (gNext)) (af4_p_worst K)
theorem h_p_worst {K : PySem.W.Frag} : ∀ ds M Q X, (fs_p_worst K) ds M Q X → ds.length = ([.v, .v, .v, .v] : List AK).length → g_p_worst K { nx := fun _ M' => Q .non M', rt := Q } (entry 4 [.v, .v, .v, .v] ds X) M := by
  rintro ds M Q X ⟨a, b, c, d, rfl, ha, ⟨hb, hbo⟩, hc, hd, qx, q⟩ -
  wp_walk using g_p_worst
  refine ⟨a, rfl, ha, qx, fun so e => ?_⟩
  obtain ⟨qx2, q2⟩ := q so e
  clear q
  subst e
  rw [goInT_tup]
  refine ⟨⟨hbo, ok_kinds _⟩, ?_⟩
  rw [eqv_strs hb]
  cases h1 : hasS (kindsW so) b
  · wp_walk
    exact qx2 h1
  wp_walk
  obtain ⟨k, rfl, hk⟩ := hasS_iff h1
  obtain ⟨qx3, q⟩ := q2 k rfl hk
  cases c
  case str w =>
    wp_walk using af4_p_worst
    refine ⟨so, rfl, ?_⟩
    wp_walk
    rw [goIn_strsW]
    by_cases hw : w ∈ wordsW so
    · rw [decide_eq_true hw]
      wp_walk
      refine ⟨d, _, rfl, hd, ?_⟩
      cases hz : sizeB d 40
      · wp_walk
        exact qx3 (.inr hz)
      obtain ⟨s, rfl, s0, s1⟩ := sizeB_iff hz
      have q := q w s rfl rfl hw s0 s1
      wp_walk
      cases so
      case row =>
        wp_walk using af3_p_worst, So.s
        exact ⟨k, w, s, rfl, s0, q⟩
      case set =>
        wp_walk using af3_p_worst, So.s
        rw [if_neg (by decide)]
        wp_walk using af2_p_worst
        rw [if_neg (by decide)]
        wp_walk using af1_p_worst
        exact ⟨k, w, s, rfl, s0, by omega, q⟩
      case map =>
        wp_walk using af3_p_worst, So.s
        rw [if_neg (by decide)]
        wp_walk using af2_p_worst
        refine ⟨w, rfl, k, keyW w, s, rfl, s0, by omega, ?_⟩
        have q : Q (.int (setW k (keyW w) s + (if w = "set" then 1 else 0))) M := q
        wp_walk
        by_cases hs : w = "set"
        · rw [if_pos hs] at q ⊢
          exact q
        · rw [if_neg hs] at q ⊢
          exact q
    · rw [decide_eq_false hw]
      wp_walk
      exact qx3 (.inl (decide_eq_false hw))
  case ref => simp [D.da] at hc
  case ty => simp [D.da] at hc
  all_goals
    wp_walk using af4_p_worst
    exact qx3 (.inl rfl)
def fs_p_sizes (K : PySem.W.Frag) : FS := fun ds M Q X => ∃ c d : D, ds = [c, d] ∧ c.da = true ∧ d.da = true ∧ (hasS (wordsW .set ++ wordsW .row ++ wordsW .map) c = false ∨ sizeB d 39 = false → X (He.ga K "NoDeed") M) ∧
    ∀ w s, c = .str w → d = .int s → w ∈ wordsW .set ++ wordsW .row ++ wordsW .map → 0 ≤ s → s ≤ 39 → Q (.tup ((if w = "into" then [s + 1] else if w ∈ (["put", "set"] : List PySem.Str) then (if s = 0 then [1] else [s, s + 1]) else if w ∈ (["take", "drop", "out"] : List PySem.Str) then (if s = 0 then [0] else [s - 1, s]) else [s]).map .int)) M
theorem mo_p_sizes {K : PySem.W.Frag} : MonoF (fs_p_sizes K) := fun _ _ _ _ _ _ h hx ⟨c, d, e, c1, c2, qx, q⟩ => ⟨c, d, e, c1, c2, fun z => hx _ _ (qx z), fun w s e1 e2 h1 h2 h3 => h _ _ (q w s e1 e2 h1 h2 h3)⟩
/-- sizes -/
def af1_p_sizes (K : PySem.W.Frag) : GS := gRet (gTup (gCons (gV 1) gNil))
def af2_p_sizes (K : PySem.W.Frag) : GS := gSeq (gIfS (gB (g2 (goIn false) (gV 0) (gTup (gCons (gC (.str "take")) (gCons (gC (.str "drop")) (gCons (gC (.str "out")) gNil)))))) (gRet (gIf (gB (g2 goEqA (gV 1) (gC (.int 0)))) (gTup (gCons (gC (.int 0)) gNil)) (gTup (gCons (g2 goSub (gV 1) (gC (.int 1))) (gCons (gV 1) gNil))))) (gNext)) (af1_p_sizes K)
def af3_p_sizes (K : PySem.W.Frag) : GS := gSeq (gIfS (gB (g2 (goIn false) (gV 0) (gTup (gCons (gC (.str "put")) (gCons (gC (.str "set")) gNil))))) (gRet (gIf (gB (g2 goEqA (gV 1) (gC (.int 0)))) (gTup (gCons (gC (.int 1)) gNil)) (gTup (gCons (gV 1) (gCons (g2 goAdd (gV 1) (gC (.int 1))) gNil))))) (gNext)) (af2_p_sizes K)
def af4_p_sizes (K : PySem.W.Frag) : GS := gSeq (gIfS (gB (g2 goEqA (gV 0) (gC (.str "into")))) (gRet (gTup (gCons (g2 goAdd (gV 1) (gC (.int 1))) gNil))) (gNext)) (af3_p_sizes K)
def cu1_p_sizes (K : PySem.W.Frag) : GS := gSeq (gIfS (gOr (gNot (gTru (gV 2))) (gNot (gTru (gCallP (fs_p_is_size K) (gCons (gV 1) (gCons (g2 goSub (gC (.int 40)) (gC (.int 1))) gNil)))))) (gRaise (He.ga K "NoDeed")) (gNext)) (af4_p_sizes K)
def g_p_sizes (K : PySem.W.Frag) : GS := gSeq (gSet 2 (gAndV (gCa gcIsi (gCons (gV 0) (gCons (gC (.ty "str")) gNil))) (g2 (goIn false) (gV 0) (g2 goAdd (g2 goAdd (gCallP (fs_p_words_of K) (gCons (gC (.str "set")) gNil)) (gCallP (fs_p_words_of K) (gCons (gC (.str "row")) gNil))) (gCallP (fs_p_words_of K) (gCons (gC (.str "map")) gNil)))))) (cu1_p_sizes K)
theorem h_p_sizes {K : PySem.W.Frag} : ∀ ds M Q X, (fs_p_sizes K) ds M Q X → ds.length = ([.v, .v] : List AK).length → g_p_sizes K { nx := fun _ M' => Q .non M', rt := Q } (entry 3 [.v, .v] ds X) M := by
  rintro ds M Q X ⟨c, d, rfl, hc, hd, qx, q⟩ -
  cases c
  case str w =>
    wp_walk using g_p_sizes
    refine ⟨.set, rfl, .row, rfl, ?_⟩
    wp_walk
    refine ⟨size_of (by decide), .map, rfl, ?_⟩
    wp_walk
    refine ⟨size_of (by decide), ?_⟩
    rw [← List.map_append, ← List.map_append, goIn_strsW]
    by_cases hw : w ∈ wordsW .set ++ wordsW .row ++ wordsW .map
    · rw [decide_eq_true hw]
      wp_walk using cu1_p_sizes
      refine ⟨d, _, rfl, hd, ?_⟩
      rw [show (40 - 1 : Int) = 39 from rfl]
      cases hz : sizeB d 39
      · wp_walk
        exact qx (.inr hz)
      obtain ⟨s, rfl, s0, s1⟩ := sizeB_iff hz
      have q := q w s rfl rfl hw s0 s1
      wp_walk using af4_p_sizes, af3_p_sizes, af2_p_sizes, af1_p_sizes, in2, in3
      by_cases h1 : w = "into"
      · rw [if_pos h1] at q ⊢
        exact q
      rw [if_neg h1] at q ⊢
      by_cases h2 : w ∈ (["put", "set"] : List PySem.Str)
      · rw [if_pos h2] at q ⊢
        by_cases h4 : s = 0
        · rw [if_pos h4] at q ⊢
          exact q
        · rw [if_neg h4] at q ⊢
          exact q
      rw [if_neg h2] at q ⊢
      by_cases h3 : w ∈ (["take", "drop", "out"] : List PySem.Str)
      · rw [if_pos h3] at q ⊢
        by_cases h4 : s = 0
        · rw [if_pos h4] at q ⊢
          exact q
        · rw [if_neg h4] at q ⊢
          exact q
      rw [if_neg h3] at q ⊢
      exact q
    · rw [decide_eq_false hw]
      wp_walk using cu1_p_sizes
      exact qx (.inl (decide_eq_false hw))
  case ref => simp [D.da] at hc
  case ty => simp [D.da] at hc
  all_goals
    wp_walk using g_p_sizes, cu1_p_sizes
    exact qx (.inl rfl)
end LW
namespace LW
open PySem PySem.Spec PySem.W PyProof.Rows L2 DL
local macro_rules | `(tactic| wp_walk) => `(tactic| simp only [gSeq, gSet, gRet, gRetN, gNext, gIfS, gDrop, gOwn, gApp, gExt, gForM, gLcM, gCnt, gTryV, gTryE, gxP, gxM, DL.Fr.mute, gIPut, gFrz, frz, gAsg, gPar, gPar3, gAug, gRaise, gRetM, gSetM, gMPut, gMGet, g1, g2, gC, gV, gVw, gB, gAnd, gOr, gNot, gNotV, gIf, DL.gCons, DL.gNil, DL.gTup, DL.gLst, gFl, gFd, gCa, gLenS, gPart, gNoP, gDisp, gPcons, gPnil, gtN, gtTup, gtCons, gtNil, gYes, gFor, gLc, giS, gCallP, gCallM, gScr, entry, aSls, aSl, DL.Fr.set, OM.d, wipeF, wipeS, keyD, List.length_cons, List.length_nil, List.cons_append, List.nil_append, List.append_nil, List.replicate_succ, List.replicate_zero, List.getElem?_cons_zero, List.getElem?_cons_succ, List.getElem?_nil, List.set_cons_zero, List.set_cons_succ, Nat.reduceAdd, Nat.reduceSub, if_true, if_false, ite_true, ite_false, reduceIte, Bool.false_eq_true, Bool.not_true, Bool.not_false, List.all_cons, List.all_nil, Bool.and_true, true_and, and_true, List.map_cons, List.map_nil, gIdx, ixT_ints, intsOf_map, Int.reduceToNat, Option.some.injEq, exists_eq_left', goAdd_int, goAdd_str, goAdd_tup, goAdd_lst, goAddW_int, goAddW_lst, goPlus_int, goI_int, guI_int, gcI1_int, goIx_lst, gcLen_lst, gcTupleS_lst, gcList_lst, goRevA_lst, goIx_tup, gcLen_tup, gcTupleS_tup, gcList_tup, goRevA_tup, gcTuple_lst, goIx_str, gcLen_str, gcInt_int, gcInt_bl, goMulT_tup, goMulL_lst, goIsB_bl, goIsN_non, isN_int, isN_bl, isN_str, isN_tup, isN_lst, isN_dic, isN_ref, isN_ty, isN_non, gTru_k, truK_non, truK_bl, truK_int, truK_lst, truK_tup, truK_str, gFlist_k, lstK_lst, lstK_tup, gsSl_k, slK_lst, slK_tup, slK_str, itsD_k, itsK_lst, itsK_tup, giZip_k, zipK_lst, zipK_tup, giR1_k, ran1K_nat, ran1K_int, giR2_k, ran2K_int, goLtA_int, goLtA_tup, ok_non, eqv_bl, goEq_int, goNe_int, goEq_bl, goNe_bl, gcMin_ints, gcMinT_ints, gcMax_ints, gcMaxT_ints, intsOf_mapf, blsOf_mapf, gcMin_f, gcMax_f, gcMin_2, gcMax_2, gcSum_ints, gcSum_f, gcBls_f, all_mapid, any_mapid, at_0, at_1, at_2, at_3, at_last, noOwn_nil, noOwn_1, noOwn_2, nof_n, nof_v, nof_b, nof_s, zipD_map, enumD_map, isi_non_int, isi_non_bool, isi_non_str, isi_non_tuple, isi_non_list, isi_non_dict, isi_bl_int, isi_bl_bool, isi_bl_str, isi_bl_tuple, isi_bl_list, isi_bl_dict, isi_int_int, isi_int_bool, isi_int_str, isi_int_tuple, isi_int_list, isi_int_dict, isi_str_int, isi_str_bool, isi_str_str, isi_str_tuple, isi_str_list, isi_str_dict, isi_tup_int, isi_tup_bool, isi_tup_str, isi_tup_tuple, isi_tup_list, isi_tup_dict, isi_lst_int, isi_lst_bool, isi_lst_str, isi_lst_tuple, isi_lst_list, isi_lst_dict, isi_dic_int, isi_dic_bool, isi_dic_str, isi_dic_tuple, isi_dic_list, isi_dic_dict, gcAll, gcAny, goMod, goFdiv, decide_eq_true_eq, Bool.not_eq_true', decide_eq_false_iff_not, ite_not, Bool.and_eq_true, not_false_eq_true, Bool.not_eq_true, List.map_append, Int.zero_add, List.any_cons, List.any_nil, Bool.true_and, Bool.or_false, Bool.xor_false, Bool.false_xor, Bool.true_xor, Bool.not_not, forall_const, Int.toNat_natCast, List.length_map, List.length_append, and_self, ne_eq, List.map_eq_nil_iff, not_true_eq_false, eq_self, goMulI, goSub, goPow, goLe, goGt, goGe, guNeg, gcAbs, goEq_str, goNe_str, goEq_tup, goNe_tup, goEq_lst, goNe_lst, goEq_non, goNe_non, gAndV_k, gOrV_k, gCh_k, blK_bl, ite_bf, reduceCtorEq, Int.reducePow, Int.reduceLT, Int.reduceLE, Int.reduceNeg, sz0, se0, sz1, se1, sz2, se2, sz3, se3, sz4, se4, sz5, se5, sz6, se6, sz7, se7, sz8, se8, sz9, se9, gFld, fldK_ref, gPutF, gPutFM, putFK_ref, gDrf, drfK_ref, gMApp, mlK_ref, gMPop, popK_int, gMIns, ins2K_2, insK_int, gMeth, mthK_ref, gMake, giR3, gFlR1, gFlR2, rg2K_int, gLenSet, lenSetK_lst, lenSetK_tup, gMinD, minDK_lst, giMem, giBA, gMIdx, goTab, gFsort, sortK_lst, sortK_tup])
local macro_rules | `(tactic| wp_walk using $ts,*) => `(tactic| simp only [$[$ts:term],*, gSeq, gSet, gRet, gRetN, gNext, gIfS, gDrop, gOwn, gApp, gExt, gForM, gLcM, gCnt, gTryV, gTryE, gxP, gxM, DL.Fr.mute, gIPut, gFrz, frz, gAsg, gPar, gPar3, gAug, gRaise, gRetM, gSetM, gMPut, gMGet, g1, g2, gC, gV, gVw, gB, gAnd, gOr, gNot, gNotV, gIf, DL.gCons, DL.gNil, DL.gTup, DL.gLst, gFl, gFd, gCa, gLenS, gPart, gNoP, gDisp, gPcons, gPnil, gtN, gtTup, gtCons, gtNil, gYes, gFor, gLc, giS, gCallP, gCallM, gScr, entry, aSls, aSl, DL.Fr.set, OM.d, wipeF, wipeS, keyD, List.length_cons, List.length_nil, List.cons_append, List.nil_append, List.append_nil, List.replicate_succ, List.replicate_zero, List.getElem?_cons_zero, List.getElem?_cons_succ, List.getElem?_nil, List.set_cons_zero, List.set_cons_succ, Nat.reduceAdd, Nat.reduceSub, if_true, if_false, ite_true, ite_false, reduceIte, Bool.false_eq_true, Bool.not_true, Bool.not_false, List.all_cons, List.all_nil, Bool.and_true, true_and, and_true, List.map_cons, List.map_nil, gIdx, ixT_ints, intsOf_map, Int.reduceToNat, Option.some.injEq, exists_eq_left', goAdd_int, goAdd_str, goAdd_tup, goAdd_lst, goAddW_int, goAddW_lst, goPlus_int, goI_int, guI_int, gcI1_int, goIx_lst, gcLen_lst, gcTupleS_lst, gcList_lst, goRevA_lst, goIx_tup, gcLen_tup, gcTupleS_tup, gcList_tup, goRevA_tup, gcTuple_lst, goIx_str, gcLen_str, gcInt_int, gcInt_bl, goMulT_tup, goMulL_lst, goIsB_bl, goIsN_non, isN_int, isN_bl, isN_str, isN_tup, isN_lst, isN_dic, isN_ref, isN_ty, isN_non, gTru_k, truK_non, truK_bl, truK_int, truK_lst, truK_tup, truK_str, gFlist_k, lstK_lst, lstK_tup, gsSl_k, slK_lst, slK_tup, slK_str, itsD_k, itsK_lst, itsK_tup, giZip_k, zipK_lst, zipK_tup, giR1_k, ran1K_nat, ran1K_int, giR2_k, ran2K_int, goLtA_int, goLtA_tup, ok_non, eqv_bl, goEq_int, goNe_int, goEq_bl, goNe_bl, gcMin_ints, gcMinT_ints, gcMax_ints, gcMaxT_ints, intsOf_mapf, blsOf_mapf, gcMin_f, gcMax_f, gcMin_2, gcMax_2, gcSum_ints, gcSum_f, gcBls_f, all_mapid, any_mapid, at_0, at_1, at_2, at_3, at_last, noOwn_nil, noOwn_1, noOwn_2, nof_n, nof_v, nof_b, nof_s, zipD_map, enumD_map, isi_non_int, isi_non_bool, isi_non_str, isi_non_tuple, isi_non_list, isi_non_dict, isi_bl_int, isi_bl_bool, isi_bl_str, isi_bl_tuple, isi_bl_list, isi_bl_dict, isi_int_int, isi_int_bool, isi_int_str, isi_int_tuple, isi_int_list, isi_int_dict, isi_str_int, isi_str_bool, isi_str_str, isi_str_tuple, isi_str_list, isi_str_dict, isi_tup_int, isi_tup_bool, isi_tup_str, isi_tup_tuple, isi_tup_list, isi_tup_dict, isi_lst_int, isi_lst_bool, isi_lst_str, isi_lst_tuple, isi_lst_list, isi_lst_dict, isi_dic_int, isi_dic_bool, isi_dic_str, isi_dic_tuple, isi_dic_list, isi_dic_dict, gcAll, gcAny, goMod, goFdiv, decide_eq_true_eq, Bool.not_eq_true', decide_eq_false_iff_not, ite_not, Bool.and_eq_true, not_false_eq_true, Bool.not_eq_true, List.map_append, Int.zero_add, List.any_cons, List.any_nil, Bool.true_and, Bool.or_false, Bool.xor_false, Bool.false_xor, Bool.true_xor, Bool.not_not, forall_const, Int.toNat_natCast, List.length_map, List.length_append, and_self, ne_eq, List.map_eq_nil_iff, not_true_eq_false, eq_self, goMulI, goSub, goPow, goLe, goGt, goGe, guNeg, gcAbs, goEq_str, goNe_str, goEq_tup, goNe_tup, goEq_lst, goNe_lst, goEq_non, goNe_non, gAndV_k, gOrV_k, gCh_k, blK_bl, ite_bf, reduceCtorEq, Int.reducePow, Int.reduceLT, Int.reduceLE, Int.reduceNeg, sz0, se0, sz1, se1, sz2, se2, sz3, se3, sz4, se4, sz5, se5, sz6, se6, sz7, se7, sz8, se8, sz9, se9, gFld, fldK_ref, gPutF, gPutFM, putFK_ref, gDrf, drfK_ref, gMApp, mlK_ref, gMPop, popK_int, gMIns, ins2K_2, insK_int, gMeth, mthK_ref, gMake, giR3, gFlR1, gFlR2, rg2K_int, gLenSet, lenSetK_lst, lenSetK_tup, gMinD, minDK_lst, giMem, giBA, gMIdx, goTab, gFsort, sortK_lst, sortK_tup])
variable {K : PySem.W.Frag}
end LW
namespace LW
open PySem PySem.Spec PySem.W PyProof.Rows L2 DL
local macro_rules | `(tactic| wp_walk) => `(tactic| simp only [gSeq, gSet, gRet, gRetN, gNext, gIfS, gDrop, gOwn, gApp, gExt, gForM, gLcM, gCnt, gTryV, gTryE, gxP, gxM, DL.Fr.mute, gIPut, gFrz, frz, gAsg, gPar, gPar3, gAug, gRaise, gRetM, gSetM, gMPut, gMGet, g1, g2, gC, gV, gVw, gB, gAnd, gOr, gNot, gNotV, gIf, DL.gCons, DL.gNil, DL.gTup, DL.gLst, gFl, gFd, gCa, gLenS, gPart, gNoP, gDisp, gPcons, gPnil, gtN, gtTup, gtCons, gtNil, gYes, gFor, gLc, giS, gCallP, gCallM, gScr, entry, aSls, aSl, DL.Fr.set, OM.d, wipeF, wipeS, keyD, List.length_cons, List.length_nil, List.cons_append, List.nil_append, List.append_nil, List.replicate_succ, List.replicate_zero, List.getElem?_cons_zero, List.getElem?_cons_succ, List.getElem?_nil, List.set_cons_zero, List.set_cons_succ, Nat.reduceAdd, Nat.reduceSub, if_true, if_false, ite_true, ite_false, reduceIte, Bool.false_eq_true, Bool.not_true, Bool.not_false, List.all_cons, List.all_nil, Bool.and_true, true_and, and_true, List.map_cons, List.map_nil, gIdx, ixT_ints, intsOf_map, Int.reduceToNat, Option.some.injEq, exists_eq_left', goAdd_int, goAdd_str, goAdd_tup, goAdd_lst, goAddW_int, goAddW_lst, goPlus_int, goI_int, guI_int, gcI1_int, goIx_lst, gcLen_lst, gcTupleS_lst, gcList_lst, goRevA_lst, goIx_tup, gcLen_tup, gcTupleS_tup, gcList_tup, goRevA_tup, gcTuple_lst, goIx_str, gcLen_str, gcInt_int, gcInt_bl, goMulT_tup, goMulL_lst, goIsB_bl, goIsN_non, isN_int, isN_bl, isN_str, isN_tup, isN_lst, isN_dic, isN_ref, isN_ty, isN_non, gTru_k, truK_non, truK_bl, truK_int, truK_lst, truK_tup, truK_str, gFlist_k, lstK_lst, lstK_tup, gsSl_k, slK_lst, slK_tup, slK_str, itsD_k, itsK_lst, itsK_tup, giZip_k, zipK_lst, zipK_tup, giR1_k, ran1K_nat, ran1K_int, giR2_k, ran2K_int, goLtA_int, goLtA_tup, ok_non, eqv_bl, goEq_int, goNe_int, goEq_bl, goNe_bl, gcMin_ints, gcMinT_ints, gcMax_ints, gcMaxT_ints, intsOf_mapf, blsOf_mapf, gcMin_f, gcMax_f, gcMin_2, gcMax_2, gcSum_ints, gcSum_f, gcBls_f, all_mapid, any_mapid, at_0, at_1, at_2, at_3, at_last, noOwn_nil, noOwn_1, noOwn_2, nof_n, nof_v, nof_b, nof_s, zipD_map, enumD_map, isi_non_int, isi_non_bool, isi_non_str, isi_non_tuple, isi_non_list, isi_non_dict, isi_bl_int, isi_bl_bool, isi_bl_str, isi_bl_tuple, isi_bl_list, isi_bl_dict, isi_int_int, isi_int_bool, isi_int_str, isi_int_tuple, isi_int_list, isi_int_dict, isi_str_int, isi_str_bool, isi_str_str, isi_str_tuple, isi_str_list, isi_str_dict, isi_tup_int, isi_tup_bool, isi_tup_str, isi_tup_tuple, isi_tup_list, isi_tup_dict, isi_lst_int, isi_lst_bool, isi_lst_str, isi_lst_tuple, isi_lst_list, isi_lst_dict, isi_dic_int, isi_dic_bool, isi_dic_str, isi_dic_tuple, isi_dic_list, isi_dic_dict, gcAll, gcAny, goMod, goFdiv, decide_eq_true_eq, Bool.not_eq_true', decide_eq_false_iff_not, ite_not, Bool.and_eq_true, not_false_eq_true, Bool.not_eq_true, List.map_append, Int.zero_add, List.any_cons, List.any_nil, Bool.true_and, Bool.or_false, Bool.xor_false, Bool.false_xor, Bool.true_xor, Bool.not_not, forall_const, Int.toNat_natCast, List.length_map, List.length_append, and_self, ne_eq, List.map_eq_nil_iff, not_true_eq_false, eq_self, goMulI, goSub, goPow, goLe, goGt, goGe, guNeg, gcAbs, goEq_str, goNe_str, goEq_tup, goNe_tup, goEq_lst, goNe_lst, goEq_non, goNe_non, gAndV_k, gOrV_k, gCh_k, blK_bl, ite_bf, reduceCtorEq, Int.reducePow, Int.reduceLT, Int.reduceLE, Int.reduceNeg, sz0, se0, sz1, se1, sz2, se2, sz3, se3, sz4, se4, sz5, se5, sz6, se6, sz7, se7, sz8, se8, sz9, se9, gFld, fldK_ref, gPutF, gPutFM, putFK_ref, gDrf, drfK_ref, gMApp, mlK_ref, gMPop, popK_int, gMIns, ins2K_2, insK_int, gMeth, mthK_ref, gMake, giR3, gFlR1, gFlR2, rg2K_int, gLenSet, lenSetK_lst, lenSetK_tup, gMinD, minDK_lst, giMem, giBA, gMIdx, goTab, gFsort, sortK_lst, sortK_tup])
local macro_rules | `(tactic| wp_walk using $ts,*) => `(tactic| simp only [$[$ts:term],*, gSeq, gSet, gRet, gRetN, gNext, gIfS, gDrop, gOwn, gApp, gExt, gForM, gLcM, gCnt, gTryV, gTryE, gxP, gxM, DL.Fr.mute, gIPut, gFrz, frz, gAsg, gPar, gPar3, gAug, gRaise, gRetM, gSetM, gMPut, gMGet, g1, g2, gC, gV, gVw, gB, gAnd, gOr, gNot, gNotV, gIf, DL.gCons, DL.gNil, DL.gTup, DL.gLst, gFl, gFd, gCa, gLenS, gPart, gNoP, gDisp, gPcons, gPnil, gtN, gtTup, gtCons, gtNil, gYes, gFor, gLc, giS, gCallP, gCallM, gScr, entry, aSls, aSl, DL.Fr.set, OM.d, wipeF, wipeS, keyD, List.length_cons, List.length_nil, List.cons_append, List.nil_append, List.append_nil, List.replicate_succ, List.replicate_zero, List.getElem?_cons_zero, List.getElem?_cons_succ, List.getElem?_nil, List.set_cons_zero, List.set_cons_succ, Nat.reduceAdd, Nat.reduceSub, if_true, if_false, ite_true, ite_false, reduceIte, Bool.false_eq_true, Bool.not_true, Bool.not_false, List.all_cons, List.all_nil, Bool.and_true, true_and, and_true, List.map_cons, List.map_nil, gIdx, ixT_ints, intsOf_map, Int.reduceToNat, Option.some.injEq, exists_eq_left', goAdd_int, goAdd_str, goAdd_tup, goAdd_lst, goAddW_int, goAddW_lst, goPlus_int, goI_int, guI_int, gcI1_int, goIx_lst, gcLen_lst, gcTupleS_lst, gcList_lst, goRevA_lst, goIx_tup, gcLen_tup, gcTupleS_tup, gcList_tup, goRevA_tup, gcTuple_lst, goIx_str, gcLen_str, gcInt_int, gcInt_bl, goMulT_tup, goMulL_lst, goIsB_bl, goIsN_non, isN_int, isN_bl, isN_str, isN_tup, isN_lst, isN_dic, isN_ref, isN_ty, isN_non, gTru_k, truK_non, truK_bl, truK_int, truK_lst, truK_tup, truK_str, gFlist_k, lstK_lst, lstK_tup, gsSl_k, slK_lst, slK_tup, slK_str, itsD_k, itsK_lst, itsK_tup, giZip_k, zipK_lst, zipK_tup, giR1_k, ran1K_nat, ran1K_int, giR2_k, ran2K_int, goLtA_int, goLtA_tup, ok_non, eqv_bl, goEq_int, goNe_int, goEq_bl, goNe_bl, gcMin_ints, gcMinT_ints, gcMax_ints, gcMaxT_ints, intsOf_mapf, blsOf_mapf, gcMin_f, gcMax_f, gcMin_2, gcMax_2, gcSum_ints, gcSum_f, gcBls_f, all_mapid, any_mapid, at_0, at_1, at_2, at_3, at_last, noOwn_nil, noOwn_1, noOwn_2, nof_n, nof_v, nof_b, nof_s, zipD_map, enumD_map, isi_non_int, isi_non_bool, isi_non_str, isi_non_tuple, isi_non_list, isi_non_dict, isi_bl_int, isi_bl_bool, isi_bl_str, isi_bl_tuple, isi_bl_list, isi_bl_dict, isi_int_int, isi_int_bool, isi_int_str, isi_int_tuple, isi_int_list, isi_int_dict, isi_str_int, isi_str_bool, isi_str_str, isi_str_tuple, isi_str_list, isi_str_dict, isi_tup_int, isi_tup_bool, isi_tup_str, isi_tup_tuple, isi_tup_list, isi_tup_dict, isi_lst_int, isi_lst_bool, isi_lst_str, isi_lst_tuple, isi_lst_list, isi_lst_dict, isi_dic_int, isi_dic_bool, isi_dic_str, isi_dic_tuple, isi_dic_list, isi_dic_dict, gcAll, gcAny, goMod, goFdiv, decide_eq_true_eq, Bool.not_eq_true', decide_eq_false_iff_not, ite_not, Bool.and_eq_true, not_false_eq_true, Bool.not_eq_true, List.map_append, Int.zero_add, List.any_cons, List.any_nil, Bool.true_and, Bool.or_false, Bool.xor_false, Bool.false_xor, Bool.true_xor, Bool.not_not, forall_const, Int.toNat_natCast, List.length_map, List.length_append, and_self, ne_eq, List.map_eq_nil_iff, not_true_eq_false, eq_self, goMulI, goSub, goPow, goLe, goGt, goGe, guNeg, gcAbs, goEq_str, goNe_str, goEq_tup, goNe_tup, goEq_lst, goNe_lst, goEq_non, goNe_non, gAndV_k, gOrV_k, gCh_k, blK_bl, ite_bf, reduceCtorEq, Int.reducePow, Int.reduceLT, Int.reduceLE, Int.reduceNeg, sz0, se0, sz1, se1, sz2, se2, sz3, se3, sz4, se4, sz5, se5, sz6, se6, sz7, se7, sz8, se8, sz9, se9, gFld, fldK_ref, gPutF, gPutFM, putFK_ref, gDrf, drfK_ref, gMApp, mlK_ref, gMPop, popK_int, gMIns, ins2K_2, insK_int, gMeth, mthK_ref, gMake, giR3, gFlR1, gFlR2, rg2K_int, gLenSet, lenSetK_lst, lenSetK_tup, gMinD, minDK_lst, giMem, giBA, gMIdx, goTab, gFsort, sortK_lst, sortK_tup])
variable {K : PySem.W.Frag}
def below (ns : List Int) (x : Int) : List Int := ns.filter fun n => decide (n < x)
inductive W5 where
  | put | take | has | next | rank
def W5.s : W5 → PySem.Str
  | .put => "put"
  | .take => "take"
  | .has => "has"
  | .next => "next"
  | .rank => "rank"
end LW
namespace LW
open PySem PySem.Spec PySem.W PyProof.Rows L2 DL
local macro_rules | `(tactic| wp_walk) => `(tactic| simp only [gSeq, gSet, gRet, gRetN, gNext, gIfS, gDrop, gOwn, gApp, gExt, gForM, gLcM, gCnt, gTryV, gTryE, gxP, gxM, DL.Fr.mute, gIPut, gFrz, frz, gAsg, gPar, gPar3, gAug, gRaise, gRetM, gSetM, gMPut, gMGet, g1, g2, gC, gV, gVw, gB, gAnd, gOr, gNot, gNotV, gIf, DL.gCons, DL.gNil, DL.gTup, DL.gLst, gFl, gFd, gCa, gLenS, gPart, gNoP, gDisp, gPcons, gPnil, gtN, gtTup, gtCons, gtNil, gYes, gFor, gLc, giS, gCallP, gCallM, gScr, entry, aSls, aSl, DL.Fr.set, OM.d, wipeF, wipeS, keyD, List.length_cons, List.length_nil, List.cons_append, List.nil_append, List.append_nil, List.replicate_succ, List.replicate_zero, List.getElem?_cons_zero, List.getElem?_cons_succ, List.getElem?_nil, List.set_cons_zero, List.set_cons_succ, Nat.reduceAdd, Nat.reduceSub, if_true, if_false, ite_true, ite_false, reduceIte, Bool.false_eq_true, Bool.not_true, Bool.not_false, List.all_cons, List.all_nil, Bool.and_true, true_and, and_true, List.map_cons, List.map_nil, gIdx, ixT_ints, intsOf_map, Int.reduceToNat, Option.some.injEq, exists_eq_left', goAdd_int, goAdd_str, goAdd_tup, goAdd_lst, goAddW_int, goAddW_lst, goPlus_int, goI_int, guI_int, gcI1_int, goIx_lst, gcLen_lst, gcTupleS_lst, gcList_lst, goRevA_lst, goIx_tup, gcLen_tup, gcTupleS_tup, gcList_tup, goRevA_tup, gcTuple_lst, goIx_str, gcLen_str, gcInt_int, gcInt_bl, goMulT_tup, goMulL_lst, goIsB_bl, goIsN_non, isN_int, isN_bl, isN_str, isN_tup, isN_lst, isN_dic, isN_ref, isN_ty, isN_non, gTru_k, truK_non, truK_bl, truK_int, truK_lst, truK_tup, truK_str, gFlist_k, lstK_lst, lstK_tup, gsSl_k, slK_lst, slK_tup, slK_str, itsD_k, itsK_lst, itsK_tup, giZip_k, zipK_lst, zipK_tup, giR1_k, ran1K_nat, ran1K_int, giR2_k, ran2K_int, goLtA_int, goLtA_tup, ok_non, eqv_bl, goEq_int, goNe_int, goEq_bl, goNe_bl, gcMin_ints, gcMinT_ints, gcMax_ints, gcMaxT_ints, intsOf_mapf, blsOf_mapf, gcMin_f, gcMax_f, gcMin_2, gcMax_2, gcSum_ints, gcSum_f, gcBls_f, all_mapid, any_mapid, at_0, at_1, at_2, at_3, at_last, noOwn_nil, noOwn_1, noOwn_2, nof_n, nof_v, nof_b, nof_s, zipD_map, enumD_map, isi_non_int, isi_non_bool, isi_non_str, isi_non_tuple, isi_non_list, isi_non_dict, isi_bl_int, isi_bl_bool, isi_bl_str, isi_bl_tuple, isi_bl_list, isi_bl_dict, isi_int_int, isi_int_bool, isi_int_str, isi_int_tuple, isi_int_list, isi_int_dict, isi_str_int, isi_str_bool, isi_str_str, isi_str_tuple, isi_str_list, isi_str_dict, isi_tup_int, isi_tup_bool, isi_tup_str, isi_tup_tuple, isi_tup_list, isi_tup_dict, isi_lst_int, isi_lst_bool, isi_lst_str, isi_lst_tuple, isi_lst_list, isi_lst_dict, isi_dic_int, isi_dic_bool, isi_dic_str, isi_dic_tuple, isi_dic_list, isi_dic_dict, gcAll, gcAny, goMod, goFdiv, decide_eq_true_eq, Bool.not_eq_true', decide_eq_false_iff_not, ite_not, Bool.and_eq_true, not_false_eq_true, Bool.not_eq_true, List.map_append, Int.zero_add, List.any_cons, List.any_nil, Bool.true_and, Bool.or_false, Bool.xor_false, Bool.false_xor, Bool.true_xor, Bool.not_not, forall_const, Int.toNat_natCast, List.length_map, List.length_append, and_self, ne_eq, List.map_eq_nil_iff, not_true_eq_false, eq_self, goMulI, goSub, goPow, goLe, goGt, goGe, guNeg, gcAbs, goEq_str, goNe_str, goEq_tup, goNe_tup, goEq_lst, goNe_lst, goEq_non, goNe_non, gAndV_k, gOrV_k, gCh_k, blK_bl, ite_bf, reduceCtorEq, Int.reducePow, Int.reduceLT, Int.reduceLE, Int.reduceNeg, sz0, se0, sz1, se1, sz2, se2, sz3, se3, sz4, se4, sz5, se5, sz6, se6, sz7, se7, sz8, se8, sz9, se9, gFld, fldK_ref, gPutF, gPutFM, putFK_ref, gDrf, drfK_ref, gMApp, mlK_ref, gMPop, popK_int, gMIns, ins2K_2, insK_int, gMeth, mthK_ref, gMake, giR3, gFlR1, gFlR2, rg2K_int, gLenSet, lenSetK_lst, lenSetK_tup, gMinD, minDK_lst, giMem, giBA, gMIdx, goTab, gFsort, sortK_lst, sortK_tup])
local macro_rules | `(tactic| wp_walk using $ts,*) => `(tactic| simp only [$[$ts:term],*, gSeq, gSet, gRet, gRetN, gNext, gIfS, gDrop, gOwn, gApp, gExt, gForM, gLcM, gCnt, gTryV, gTryE, gxP, gxM, DL.Fr.mute, gIPut, gFrz, frz, gAsg, gPar, gPar3, gAug, gRaise, gRetM, gSetM, gMPut, gMGet, g1, g2, gC, gV, gVw, gB, gAnd, gOr, gNot, gNotV, gIf, DL.gCons, DL.gNil, DL.gTup, DL.gLst, gFl, gFd, gCa, gLenS, gPart, gNoP, gDisp, gPcons, gPnil, gtN, gtTup, gtCons, gtNil, gYes, gFor, gLc, giS, gCallP, gCallM, gScr, entry, aSls, aSl, DL.Fr.set, OM.d, wipeF, wipeS, keyD, List.length_cons, List.length_nil, List.cons_append, List.nil_append, List.append_nil, List.replicate_succ, List.replicate_zero, List.getElem?_cons_zero, List.getElem?_cons_succ, List.getElem?_nil, List.set_cons_zero, List.set_cons_succ, Nat.reduceAdd, Nat.reduceSub, if_true, if_false, ite_true, ite_false, reduceIte, Bool.false_eq_true, Bool.not_true, Bool.not_false, List.all_cons, List.all_nil, Bool.and_true, true_and, and_true, List.map_cons, List.map_nil, gIdx, ixT_ints, intsOf_map, Int.reduceToNat, Option.some.injEq, exists_eq_left', goAdd_int, goAdd_str, goAdd_tup, goAdd_lst, goAddW_int, goAddW_lst, goPlus_int, goI_int, guI_int, gcI1_int, goIx_lst, gcLen_lst, gcTupleS_lst, gcList_lst, goRevA_lst, goIx_tup, gcLen_tup, gcTupleS_tup, gcList_tup, goRevA_tup, gcTuple_lst, goIx_str, gcLen_str, gcInt_int, gcInt_bl, goMulT_tup, goMulL_lst, goIsB_bl, goIsN_non, isN_int, isN_bl, isN_str, isN_tup, isN_lst, isN_dic, isN_ref, isN_ty, isN_non, gTru_k, truK_non, truK_bl, truK_int, truK_lst, truK_tup, truK_str, gFlist_k, lstK_lst, lstK_tup, gsSl_k, slK_lst, slK_tup, slK_str, itsD_k, itsK_lst, itsK_tup, giZip_k, zipK_lst, zipK_tup, giR1_k, ran1K_nat, ran1K_int, giR2_k, ran2K_int, goLtA_int, goLtA_tup, ok_non, eqv_bl, goEq_int, goNe_int, goEq_bl, goNe_bl, gcMin_ints, gcMinT_ints, gcMax_ints, gcMaxT_ints, intsOf_mapf, blsOf_mapf, gcMin_f, gcMax_f, gcMin_2, gcMax_2, gcSum_ints, gcSum_f, gcBls_f, all_mapid, any_mapid, at_0, at_1, at_2, at_3, at_last, noOwn_nil, noOwn_1, noOwn_2, nof_n, nof_v, nof_b, nof_s, zipD_map, enumD_map, isi_non_int, isi_non_bool, isi_non_str, isi_non_tuple, isi_non_list, isi_non_dict, isi_bl_int, isi_bl_bool, isi_bl_str, isi_bl_tuple, isi_bl_list, isi_bl_dict, isi_int_int, isi_int_bool, isi_int_str, isi_int_tuple, isi_int_list, isi_int_dict, isi_str_int, isi_str_bool, isi_str_str, isi_str_tuple, isi_str_list, isi_str_dict, isi_tup_int, isi_tup_bool, isi_tup_str, isi_tup_tuple, isi_tup_list, isi_tup_dict, isi_lst_int, isi_lst_bool, isi_lst_str, isi_lst_tuple, isi_lst_list, isi_lst_dict, isi_dic_int, isi_dic_bool, isi_dic_str, isi_dic_tuple, isi_dic_list, isi_dic_dict, gcAll, gcAny, goMod, goFdiv, decide_eq_true_eq, Bool.not_eq_true', decide_eq_false_iff_not, ite_not, Bool.and_eq_true, not_false_eq_true, Bool.not_eq_true, List.map_append, Int.zero_add, List.any_cons, List.any_nil, Bool.true_and, Bool.or_false, Bool.xor_false, Bool.false_xor, Bool.true_xor, Bool.not_not, forall_const, Int.toNat_natCast, List.length_map, List.length_append, and_self, ne_eq, List.map_eq_nil_iff, not_true_eq_false, eq_self, goMulI, goSub, goPow, goLe, goGt, goGe, guNeg, gcAbs, goEq_str, goNe_str, goEq_tup, goNe_tup, goEq_lst, goNe_lst, goEq_non, goNe_non, gAndV_k, gOrV_k, gCh_k, blK_bl, ite_bf, reduceCtorEq, Int.reducePow, Int.reduceLT, Int.reduceLE, Int.reduceNeg, sz0, se0, sz1, se1, sz2, se2, sz3, se3, sz4, se4, sz5, se5, sz6, se6, sz7, se7, sz8, se8, sz9, se9, gFld, fldK_ref, gPutF, gPutFM, putFK_ref, gDrf, drfK_ref, gMApp, mlK_ref, gMPop, popK_int, gMIns, ins2K_2, insK_int, gMeth, mthK_ref, gMake, giR3, gFlR1, gFlR2, rg2K_int, gLenSet, lenSetK_lst, lenSetK_tup, gMinD, minDK_lst, giMem, giBA, gMIdx, goTab, gFsort, sortK_lst, sortK_tup])
variable {K : PySem.W.Frag}
/-- deeds of a row -/
inductive RD where
  | at_ (i : Int) | into (i x : Int) | out (i : Int) | find (x : Int)
def RD.w : RD → PySem.Str
  | .at_ _ => "at"
  | .into _ _ => "into"
  | .out _ => "out"
  | .find _ => "find"
def RD.ns : RD → List Int
  | .at_ i => [i]
  | .into i x => [i, x]
  | .out i => [i]
  | .find x => [x]
def RD.d (r : RD) : D := .tup (.str r.w :: r.ns.map .int)
def thingN (x : Int) : Prop := 0 ≤ x ∧ x ≤ 999999
def RD.ok (r : RD) : Prop := ∀ x ∈ r.ns, thingN x
/-- deeds of a map -/
inductive MD where
  | set (k v : Int) | get (k : Int) | drop (k : Int) | next (k : Int)
def MD.w : MD → PySem.Str
  | .set _ _ => "set"
  | .get _ => "get"
  | .drop _ => "drop"
  | .next _ => "next"
def MD.k : MD → Int
  | .set k _ => k
  | .get k => k
  | .drop k => k
  | .next k => k
def MD.ns : MD → List Int
  | .set k v => [k, v]
  | .get k => [k]
  | .drop k => [k]
  | .next k => [k]
def MD.d (r : MD) : D := .tup (.str r.w :: r.ns.map .int)
def MD.ok (r : MD) : Prop := ∀ x ∈ r.ns, thingN x
/-- whether a deed brings one more onto a full row -/
def RD.more : RD → List Int → Prop
  | .into _ _, ns => ns.length = 40
  | _, _ => False
def MD.more : MD → List (Int × Int) → Prop
  | .set k _, ps => k ∉ ps.map (·.1) ∧ ps.length = 40
  | _, _ => False
theorem So.inj {a b : So} (h : D.str a.s = .str b.s) : a = b := by cases a <;> cases b <;> first | rfl | exact absurd (D.str.inj h) (by decide)
end LW
namespace LW
open PySem PySem.Spec PySem.W PyProof.Rows L2 DL
local macro_rules | `(tactic| wp_walk) => `(tactic| simp only [gSeq, gSet, gRet, gRetN, gNext, gIfS, gDrop, gOwn, gApp, gExt, gForM, gLcM, gCnt, gTryV, gTryE, gxP, gxM, DL.Fr.mute, gIPut, gFrz, frz, gAsg, gPar, gPar3, gAug, gRaise, gRetM, gSetM, gMPut, gMGet, g1, g2, gC, gV, gVw, gB, gAnd, gOr, gNot, gNotV, gIf, DL.gCons, DL.gNil, DL.gTup, DL.gLst, gFl, gFd, gCa, gLenS, gPart, gNoP, gDisp, gPcons, gPnil, gtN, gtTup, gtCons, gtNil, gYes, gFor, gLc, giS, gCallP, gCallM, gScr, entry, aSls, aSl, DL.Fr.set, OM.d, wipeF, wipeS, keyD, List.length_cons, List.length_nil, List.cons_append, List.nil_append, List.append_nil, List.replicate_succ, List.replicate_zero, List.getElem?_cons_zero, List.getElem?_cons_succ, List.getElem?_nil, List.set_cons_zero, List.set_cons_succ, Nat.reduceAdd, Nat.reduceSub, if_true, if_false, ite_true, ite_false, reduceIte, Bool.false_eq_true, Bool.not_true, Bool.not_false, List.all_cons, List.all_nil, Bool.and_true, true_and, and_true, List.map_cons, List.map_nil, gIdx, ixT_ints, intsOf_map, Int.reduceToNat, Option.some.injEq, exists_eq_left', goAdd_int, goAdd_str, goAdd_tup, goAdd_lst, goAddW_int, goAddW_lst, goPlus_int, goI_int, guI_int, gcI1_int, goIx_lst, gcLen_lst, gcTupleS_lst, gcList_lst, goRevA_lst, goIx_tup, gcLen_tup, gcTupleS_tup, gcList_tup, goRevA_tup, gcTuple_lst, goIx_str, gcLen_str, gcInt_int, gcInt_bl, goMulT_tup, goMulL_lst, goIsB_bl, goIsN_non, isN_int, isN_bl, isN_str, isN_tup, isN_lst, isN_dic, isN_ref, isN_ty, isN_non, gTru_k, truK_non, truK_bl, truK_int, truK_lst, truK_tup, truK_str, gFlist_k, lstK_lst, lstK_tup, gsSl_k, slK_lst, slK_tup, slK_str, itsD_k, itsK_lst, itsK_tup, giZip_k, zipK_lst, zipK_tup, giR1_k, ran1K_nat, ran1K_int, giR2_k, ran2K_int, goLtA_int, goLtA_tup, ok_non, eqv_bl, goEq_int, goNe_int, goEq_bl, goNe_bl, gcMin_ints, gcMinT_ints, gcMax_ints, gcMaxT_ints, intsOf_mapf, blsOf_mapf, gcMin_f, gcMax_f, gcMin_2, gcMax_2, gcSum_ints, gcSum_f, gcBls_f, all_mapid, any_mapid, at_0, at_1, at_2, at_3, at_last, noOwn_nil, noOwn_1, noOwn_2, nof_n, nof_v, nof_b, nof_s, zipD_map, enumD_map, isi_non_int, isi_non_bool, isi_non_str, isi_non_tuple, isi_non_list, isi_non_dict, isi_bl_int, isi_bl_bool, isi_bl_str, isi_bl_tuple, isi_bl_list, isi_bl_dict, isi_int_int, isi_int_bool, isi_int_str, isi_int_tuple, isi_int_list, isi_int_dict, isi_str_int, isi_str_bool, isi_str_str, isi_str_tuple, isi_str_list, isi_str_dict, isi_tup_int, isi_tup_bool, isi_tup_str, isi_tup_tuple, isi_tup_list, isi_tup_dict, isi_lst_int, isi_lst_bool, isi_lst_str, isi_lst_tuple, isi_lst_list, isi_lst_dict, isi_dic_int, isi_dic_bool, isi_dic_str, isi_dic_tuple, isi_dic_list, isi_dic_dict, gcAll, gcAny, goMod, goFdiv, decide_eq_true_eq, Bool.not_eq_true', decide_eq_false_iff_not, ite_not, Bool.and_eq_true, not_false_eq_true, Bool.not_eq_true, List.map_append, Int.zero_add, List.any_cons, List.any_nil, Bool.true_and, Bool.or_false, Bool.xor_false, Bool.false_xor, Bool.true_xor, Bool.not_not, forall_const, Int.toNat_natCast, List.length_map, List.length_append, and_self, ne_eq, List.map_eq_nil_iff, not_true_eq_false, eq_self, goMulI, goSub, goPow, goLe, goGt, goGe, guNeg, gcAbs, goEq_str, goNe_str, goEq_tup, goNe_tup, goEq_lst, goNe_lst, goEq_non, goNe_non, gAndV_k, gOrV_k, gCh_k, blK_bl, ite_bf, reduceCtorEq, Int.reducePow, Int.reduceLT, Int.reduceLE, Int.reduceNeg, sz0, se0, sz1, se1, sz2, se2, sz3, se3, sz4, se4, sz5, se5, sz6, se6, sz7, se7, sz8, se8, sz9, se9, gFld, fldK_ref, gPutF, gPutFM, putFK_ref, gDrf, drfK_ref, gMApp, mlK_ref, gMPop, popK_int, gMIns, ins2K_2, insK_int, gMeth, mthK_ref, gMake, giR3, gFlR1, gFlR2, rg2K_int, gLenSet, lenSetK_lst, lenSetK_tup, gMinD, minDK_lst, giMem, giBA, gMIdx, goTab, gFsort, sortK_lst, sortK_tup])
local macro_rules | `(tactic| wp_walk using $ts,*) => `(tactic| simp only [$[$ts:term],*, gSeq, gSet, gRet, gRetN, gNext, gIfS, gDrop, gOwn, gApp, gExt, gForM, gLcM, gCnt, gTryV, gTryE, gxP, gxM, DL.Fr.mute, gIPut, gFrz, frz, gAsg, gPar, gPar3, gAug, gRaise, gRetM, gSetM, gMPut, gMGet, g1, g2, gC, gV, gVw, gB, gAnd, gOr, gNot, gNotV, gIf, DL.gCons, DL.gNil, DL.gTup, DL.gLst, gFl, gFd, gCa, gLenS, gPart, gNoP, gDisp, gPcons, gPnil, gtN, gtTup, gtCons, gtNil, gYes, gFor, gLc, giS, gCallP, gCallM, gScr, entry, aSls, aSl, DL.Fr.set, OM.d, wipeF, wipeS, keyD, List.length_cons, List.length_nil, List.cons_append, List.nil_append, List.append_nil, List.replicate_succ, List.replicate_zero, List.getElem?_cons_zero, List.getElem?_cons_succ, List.getElem?_nil, List.set_cons_zero, List.set_cons_succ, Nat.reduceAdd, Nat.reduceSub, if_true, if_false, ite_true, ite_false, reduceIte, Bool.false_eq_true, Bool.not_true, Bool.not_false, List.all_cons, List.all_nil, Bool.and_true, true_and, and_true, List.map_cons, List.map_nil, gIdx, ixT_ints, intsOf_map, Int.reduceToNat, Option.some.injEq, exists_eq_left', goAdd_int, goAdd_str, goAdd_tup, goAdd_lst, goAddW_int, goAddW_lst, goPlus_int, goI_int, guI_int, gcI1_int, goIx_lst, gcLen_lst, gcTupleS_lst, gcList_lst, goRevA_lst, goIx_tup, gcLen_tup, gcTupleS_tup, gcList_tup, goRevA_tup, gcTuple_lst, goIx_str, gcLen_str, gcInt_int, gcInt_bl, goMulT_tup, goMulL_lst, goIsB_bl, goIsN_non, isN_int, isN_bl, isN_str, isN_tup, isN_lst, isN_dic, isN_ref, isN_ty, isN_non, gTru_k, truK_non, truK_bl, truK_int, truK_lst, truK_tup, truK_str, gFlist_k, lstK_lst, lstK_tup, gsSl_k, slK_lst, slK_tup, slK_str, itsD_k, itsK_lst, itsK_tup, giZip_k, zipK_lst, zipK_tup, giR1_k, ran1K_nat, ran1K_int, giR2_k, ran2K_int, goLtA_int, goLtA_tup, ok_non, eqv_bl, goEq_int, goNe_int, goEq_bl, goNe_bl, gcMin_ints, gcMinT_ints, gcMax_ints, gcMaxT_ints, intsOf_mapf, blsOf_mapf, gcMin_f, gcMax_f, gcMin_2, gcMax_2, gcSum_ints, gcSum_f, gcBls_f, all_mapid, any_mapid, at_0, at_1, at_2, at_3, at_last, noOwn_nil, noOwn_1, noOwn_2, nof_n, nof_v, nof_b, nof_s, zipD_map, enumD_map, isi_non_int, isi_non_bool, isi_non_str, isi_non_tuple, isi_non_list, isi_non_dict, isi_bl_int, isi_bl_bool, isi_bl_str, isi_bl_tuple, isi_bl_list, isi_bl_dict, isi_int_int, isi_int_bool, isi_int_str, isi_int_tuple, isi_int_list, isi_int_dict, isi_str_int, isi_str_bool, isi_str_str, isi_str_tuple, isi_str_list, isi_str_dict, isi_tup_int, isi_tup_bool, isi_tup_str, isi_tup_tuple, isi_tup_list, isi_tup_dict, isi_lst_int, isi_lst_bool, isi_lst_str, isi_lst_tuple, isi_lst_list, isi_lst_dict, isi_dic_int, isi_dic_bool, isi_dic_str, isi_dic_tuple, isi_dic_list, isi_dic_dict, gcAll, gcAny, goMod, goFdiv, decide_eq_true_eq, Bool.not_eq_true', decide_eq_false_iff_not, ite_not, Bool.and_eq_true, not_false_eq_true, Bool.not_eq_true, List.map_append, Int.zero_add, List.any_cons, List.any_nil, Bool.true_and, Bool.or_false, Bool.xor_false, Bool.false_xor, Bool.true_xor, Bool.not_not, forall_const, Int.toNat_natCast, List.length_map, List.length_append, and_self, ne_eq, List.map_eq_nil_iff, not_true_eq_false, eq_self, goMulI, goSub, goPow, goLe, goGt, goGe, guNeg, gcAbs, goEq_str, goNe_str, goEq_tup, goNe_tup, goEq_lst, goNe_lst, goEq_non, goNe_non, gAndV_k, gOrV_k, gCh_k, blK_bl, ite_bf, reduceCtorEq, Int.reducePow, Int.reduceLT, Int.reduceLE, Int.reduceNeg, sz0, se0, sz1, se1, sz2, se2, sz3, se3, sz4, se4, sz5, se5, sz6, se6, sz7, se7, sz8, se8, sz9, se9, gFld, fldK_ref, gPutF, gPutFM, putFK_ref, gDrf, drfK_ref, gMApp, mlK_ref, gMPop, popK_int, gMIns, ins2K_2, insK_int, gMeth, mthK_ref, gMake, giR3, gFlR1, gFlR2, rg2K_int, gLenSet, lenSetK_lst, lenSetK_tup, gMinD, minDK_lst, giMem, giBA, gMIdx, goTab, gFsort, sortK_lst, sortK_tup])
variable {K : PySem.W.Frag}
end LW
namespace LW
open PySem PySem.Spec PySem.W PyProof.Rows L2 DL
local macro_rules | `(tactic| wp_walk) => `(tactic| simp only [gSeq, gSet, gRet, gRetN, gNext, gIfS, gDrop, gOwn, gApp, gExt, gForM, gLcM, gCnt, gTryV, gTryE, gxP, gxM, DL.Fr.mute, gIPut, gFrz, frz, gAsg, gPar, gPar3, gAug, gRaise, gRetM, gSetM, gMPut, gMGet, g1, g2, gC, gV, gVw, gB, gAnd, gOr, gNot, gNotV, gIf, DL.gCons, DL.gNil, DL.gTup, DL.gLst, gFl, gFd, gCa, gLenS, gPart, gNoP, gDisp, gPcons, gPnil, gtN, gtTup, gtCons, gtNil, gYes, gFor, gLc, giS, gCallP, gCallM, gScr, entry, aSls, aSl, DL.Fr.set, OM.d, wipeF, wipeS, keyD, List.length_cons, List.length_nil, List.cons_append, List.nil_append, List.append_nil, List.replicate_succ, List.replicate_zero, List.getElem?_cons_zero, List.getElem?_cons_succ, List.getElem?_nil, List.set_cons_zero, List.set_cons_succ, Nat.reduceAdd, Nat.reduceSub, if_true, if_false, ite_true, ite_false, reduceIte, Bool.false_eq_true, Bool.not_true, Bool.not_false, List.all_cons, List.all_nil, Bool.and_true, true_and, and_true, List.map_cons, List.map_nil, gIdx, ixT_ints, intsOf_map, Int.reduceToNat, Option.some.injEq, exists_eq_left', goAdd_int, goAdd_str, goAdd_tup, goAdd_lst, goAddW_int, goAddW_lst, goPlus_int, goI_int, guI_int, gcI1_int, goIx_lst, gcLen_lst, gcTupleS_lst, gcList_lst, goRevA_lst, goIx_tup, gcLen_tup, gcTupleS_tup, gcList_tup, goRevA_tup, gcTuple_lst, goIx_str, gcLen_str, gcInt_int, gcInt_bl, goMulT_tup, goMulL_lst, goIsB_bl, goIsN_non, isN_int, isN_bl, isN_str, isN_tup, isN_lst, isN_dic, isN_ref, isN_ty, isN_non, gTru_k, truK_non, truK_bl, truK_int, truK_lst, truK_tup, truK_str, gFlist_k, lstK_lst, lstK_tup, gsSl_k, slK_lst, slK_tup, slK_str, itsD_k, itsK_lst, itsK_tup, giZip_k, zipK_lst, zipK_tup, giR1_k, ran1K_nat, ran1K_int, giR2_k, ran2K_int, goLtA_int, goLtA_tup, ok_non, eqv_bl, goEq_int, goNe_int, goEq_bl, goNe_bl, gcMin_ints, gcMinT_ints, gcMax_ints, gcMaxT_ints, intsOf_mapf, blsOf_mapf, gcMin_f, gcMax_f, gcMin_2, gcMax_2, gcSum_ints, gcSum_f, gcBls_f, all_mapid, any_mapid, at_0, at_1, at_2, at_3, at_last, noOwn_nil, noOwn_1, noOwn_2, nof_n, nof_v, nof_b, nof_s, zipD_map, enumD_map, isi_non_int, isi_non_bool, isi_non_str, isi_non_tuple, isi_non_list, isi_non_dict, isi_bl_int, isi_bl_bool, isi_bl_str, isi_bl_tuple, isi_bl_list, isi_bl_dict, isi_int_int, isi_int_bool, isi_int_str, isi_int_tuple, isi_int_list, isi_int_dict, isi_str_int, isi_str_bool, isi_str_str, isi_str_tuple, isi_str_list, isi_str_dict, isi_tup_int, isi_tup_bool, isi_tup_str, isi_tup_tuple, isi_tup_list, isi_tup_dict, isi_lst_int, isi_lst_bool, isi_lst_str, isi_lst_tuple, isi_lst_list, isi_lst_dict, isi_dic_int, isi_dic_bool, isi_dic_str, isi_dic_tuple, isi_dic_list, isi_dic_dict, gcAll, gcAny, goMod, goFdiv, decide_eq_true_eq, Bool.not_eq_true', decide_eq_false_iff_not, ite_not, Bool.and_eq_true, not_false_eq_true, Bool.not_eq_true, List.map_append, Int.zero_add, List.any_cons, List.any_nil, Bool.true_and, Bool.or_false, Bool.xor_false, Bool.false_xor, Bool.true_xor, Bool.not_not, forall_const, Int.toNat_natCast, List.length_map, List.length_append, and_self, ne_eq, List.map_eq_nil_iff, not_true_eq_false, eq_self, goMulI, goSub, goPow, goLe, goGt, goGe, guNeg, gcAbs, goEq_str, goNe_str, goEq_tup, goNe_tup, goEq_lst, goNe_lst, goEq_non, goNe_non, gAndV_k, gOrV_k, gCh_k, blK_bl, ite_bf, reduceCtorEq, Int.reducePow, Int.reduceLT, Int.reduceLE, Int.reduceNeg, sz0, se0, sz1, se1, sz2, se2, sz3, se3, sz4, se4, sz5, se5, sz6, se6, sz7, se7, sz8, se8, sz9, se9, gFld, fldK_ref, gPutF, gPutFM, putFK_ref, gDrf, drfK_ref, gMApp, mlK_ref, gMPop, popK_int, gMIns, ins2K_2, insK_int, gMeth, mthK_ref, gMake, giR3, gFlR1, gFlR2, rg2K_int, gLenSet, lenSetK_lst, lenSetK_tup, gMinD, minDK_lst, giMem, giBA, gMIdx, goTab, gFsort, sortK_lst, sortK_tup])
local macro_rules | `(tactic| wp_walk using $ts,*) => `(tactic| simp only [$[$ts:term],*, gSeq, gSet, gRet, gRetN, gNext, gIfS, gDrop, gOwn, gApp, gExt, gForM, gLcM, gCnt, gTryV, gTryE, gxP, gxM, DL.Fr.mute, gIPut, gFrz, frz, gAsg, gPar, gPar3, gAug, gRaise, gRetM, gSetM, gMPut, gMGet, g1, g2, gC, gV, gVw, gB, gAnd, gOr, gNot, gNotV, gIf, DL.gCons, DL.gNil, DL.gTup, DL.gLst, gFl, gFd, gCa, gLenS, gPart, gNoP, gDisp, gPcons, gPnil, gtN, gtTup, gtCons, gtNil, gYes, gFor, gLc, giS, gCallP, gCallM, gScr, entry, aSls, aSl, DL.Fr.set, OM.d, wipeF, wipeS, keyD, List.length_cons, List.length_nil, List.cons_append, List.nil_append, List.append_nil, List.replicate_succ, List.replicate_zero, List.getElem?_cons_zero, List.getElem?_cons_succ, List.getElem?_nil, List.set_cons_zero, List.set_cons_succ, Nat.reduceAdd, Nat.reduceSub, if_true, if_false, ite_true, ite_false, reduceIte, Bool.false_eq_true, Bool.not_true, Bool.not_false, List.all_cons, List.all_nil, Bool.and_true, true_and, and_true, List.map_cons, List.map_nil, gIdx, ixT_ints, intsOf_map, Int.reduceToNat, Option.some.injEq, exists_eq_left', goAdd_int, goAdd_str, goAdd_tup, goAdd_lst, goAddW_int, goAddW_lst, goPlus_int, goI_int, guI_int, gcI1_int, goIx_lst, gcLen_lst, gcTupleS_lst, gcList_lst, goRevA_lst, goIx_tup, gcLen_tup, gcTupleS_tup, gcList_tup, goRevA_tup, gcTuple_lst, goIx_str, gcLen_str, gcInt_int, gcInt_bl, goMulT_tup, goMulL_lst, goIsB_bl, goIsN_non, isN_int, isN_bl, isN_str, isN_tup, isN_lst, isN_dic, isN_ref, isN_ty, isN_non, gTru_k, truK_non, truK_bl, truK_int, truK_lst, truK_tup, truK_str, gFlist_k, lstK_lst, lstK_tup, gsSl_k, slK_lst, slK_tup, slK_str, itsD_k, itsK_lst, itsK_tup, giZip_k, zipK_lst, zipK_tup, giR1_k, ran1K_nat, ran1K_int, giR2_k, ran2K_int, goLtA_int, goLtA_tup, ok_non, eqv_bl, goEq_int, goNe_int, goEq_bl, goNe_bl, gcMin_ints, gcMinT_ints, gcMax_ints, gcMaxT_ints, intsOf_mapf, blsOf_mapf, gcMin_f, gcMax_f, gcMin_2, gcMax_2, gcSum_ints, gcSum_f, gcBls_f, all_mapid, any_mapid, at_0, at_1, at_2, at_3, at_last, noOwn_nil, noOwn_1, noOwn_2, nof_n, nof_v, nof_b, nof_s, zipD_map, enumD_map, isi_non_int, isi_non_bool, isi_non_str, isi_non_tuple, isi_non_list, isi_non_dict, isi_bl_int, isi_bl_bool, isi_bl_str, isi_bl_tuple, isi_bl_list, isi_bl_dict, isi_int_int, isi_int_bool, isi_int_str, isi_int_tuple, isi_int_list, isi_int_dict, isi_str_int, isi_str_bool, isi_str_str, isi_str_tuple, isi_str_list, isi_str_dict, isi_tup_int, isi_tup_bool, isi_tup_str, isi_tup_tuple, isi_tup_list, isi_tup_dict, isi_lst_int, isi_lst_bool, isi_lst_str, isi_lst_tuple, isi_lst_list, isi_lst_dict, isi_dic_int, isi_dic_bool, isi_dic_str, isi_dic_tuple, isi_dic_list, isi_dic_dict, gcAll, gcAny, goMod, goFdiv, decide_eq_true_eq, Bool.not_eq_true', decide_eq_false_iff_not, ite_not, Bool.and_eq_true, not_false_eq_true, Bool.not_eq_true, List.map_append, Int.zero_add, List.any_cons, List.any_nil, Bool.true_and, Bool.or_false, Bool.xor_false, Bool.false_xor, Bool.true_xor, Bool.not_not, forall_const, Int.toNat_natCast, List.length_map, List.length_append, and_self, ne_eq, List.map_eq_nil_iff, not_true_eq_false, eq_self, goMulI, goSub, goPow, goLe, goGt, goGe, guNeg, gcAbs, goEq_str, goNe_str, goEq_tup, goNe_tup, goEq_lst, goNe_lst, goEq_non, goNe_non, gAndV_k, gOrV_k, gCh_k, blK_bl, ite_bf, reduceCtorEq, Int.reducePow, Int.reduceLT, Int.reduceLE, Int.reduceNeg, sz0, se0, sz1, se1, sz2, se2, sz3, se3, sz4, se4, sz5, se5, sz6, se6, sz7, se7, sz8, se8, sz9, se9, gFld, fldK_ref, gPutF, gPutFM, putFK_ref, gDrf, drfK_ref, gMApp, mlK_ref, gMPop, popK_int, gMIns, ins2K_2, insK_int, gMeth, mthK_ref, gMake, giR3, gFlR1, gFlR2, rg2K_int, gLenSet, lenSetK_lst, lenSetK_tup, gMinD, minDK_lst, giMem, giBA, gMIdx, goTab, gFsort, sortK_lst, sortK_tup])
variable {K : PySem.W.Frag}
theorem is_of {tb : List (Addr × D × Bool)} {a C : Addr} {c : D} {b : Bool} {M : Mem} {Q : D → Mem → Prop} (ma : M a = some (.ho (L2.ExC (.ref C) a))) (h : (C, c, b) ∈ tb) (q : Q (.bl b) M) : gcIsX tb [.ref a, c] M Q := ⟨C, b, ma, h, q⟩
def excW : List (PySem.Str × PySem.Str) := [("NoSort", "sort"), ("NoThings", "things"), ("NoDeed", "deed"), ("NoKind", "kind"), ("TooMany", "many"), ("NoProgram", "program"), ("NoText", "text"), ("NoRun", "run"), ("NoCosts", "costs"), ("NoChoice", "choice"), ("NoShelf", "shelf"), ("NoRow", "row")]
end LW
namespace LW
open PySem PySem.Spec PySem.W PyProof.Rows L2 DL
local macro_rules | `(tactic| wp_walk) => `(tactic| simp only [gSeq, gSet, gRet, gRetN, gNext, gIfS, gDrop, gOwn, gApp, gExt, gForM, gLcM, gCnt, gTryV, gTryE, gxP, gxM, DL.Fr.mute, gIPut, gFrz, frz, gAsg, gPar, gPar3, gAug, gRaise, gRetM, gSetM, gMPut, gMGet, g1, g2, gC, gV, gVw, gB, gAnd, gOr, gNot, gNotV, gIf, DL.gCons, DL.gNil, DL.gTup, DL.gLst, gFl, gFd, gCa, gLenS, gPart, gNoP, gDisp, gPcons, gPnil, gtN, gtTup, gtCons, gtNil, gYes, gFor, gLc, giS, gCallP, gCallM, gScr, entry, aSls, aSl, DL.Fr.set, OM.d, wipeF, wipeS, keyD, List.length_cons, List.length_nil, List.cons_append, List.nil_append, List.append_nil, List.replicate_succ, List.replicate_zero, List.getElem?_cons_zero, List.getElem?_cons_succ, List.getElem?_nil, List.set_cons_zero, List.set_cons_succ, Nat.reduceAdd, Nat.reduceSub, if_true, if_false, ite_true, ite_false, reduceIte, Bool.false_eq_true, Bool.not_true, Bool.not_false, List.all_cons, List.all_nil, Bool.and_true, true_and, and_true, List.map_cons, List.map_nil, gIdx, ixT_ints, intsOf_map, Int.reduceToNat, Option.some.injEq, exists_eq_left', goAdd_int, goAdd_str, goAdd_tup, goAdd_lst, goAddW_int, goAddW_lst, goPlus_int, goI_int, guI_int, gcI1_int, goIx_lst, gcLen_lst, gcTupleS_lst, gcList_lst, goRevA_lst, goIx_tup, gcLen_tup, gcTupleS_tup, gcList_tup, goRevA_tup, gcTuple_lst, goIx_str, gcLen_str, gcInt_int, gcInt_bl, goMulT_tup, goMulL_lst, goIsB_bl, goIsN_non, isN_int, isN_bl, isN_str, isN_tup, isN_lst, isN_dic, isN_ref, isN_ty, isN_non, gTru_k, truK_non, truK_bl, truK_int, truK_lst, truK_tup, truK_str, gFlist_k, lstK_lst, lstK_tup, gsSl_k, slK_lst, slK_tup, slK_str, itsD_k, itsK_lst, itsK_tup, giZip_k, zipK_lst, zipK_tup, giR1_k, ran1K_nat, ran1K_int, giR2_k, ran2K_int, goLtA_int, goLtA_tup, ok_non, eqv_bl, goEq_int, goNe_int, goEq_bl, goNe_bl, gcMin_ints, gcMinT_ints, gcMax_ints, gcMaxT_ints, intsOf_mapf, blsOf_mapf, gcMin_f, gcMax_f, gcMin_2, gcMax_2, gcSum_ints, gcSum_f, gcBls_f, all_mapid, any_mapid, at_0, at_1, at_2, at_3, at_last, noOwn_nil, noOwn_1, noOwn_2, nof_n, nof_v, nof_b, nof_s, zipD_map, enumD_map, isi_non_int, isi_non_bool, isi_non_str, isi_non_tuple, isi_non_list, isi_non_dict, isi_bl_int, isi_bl_bool, isi_bl_str, isi_bl_tuple, isi_bl_list, isi_bl_dict, isi_int_int, isi_int_bool, isi_int_str, isi_int_tuple, isi_int_list, isi_int_dict, isi_str_int, isi_str_bool, isi_str_str, isi_str_tuple, isi_str_list, isi_str_dict, isi_tup_int, isi_tup_bool, isi_tup_str, isi_tup_tuple, isi_tup_list, isi_tup_dict, isi_lst_int, isi_lst_bool, isi_lst_str, isi_lst_tuple, isi_lst_list, isi_lst_dict, isi_dic_int, isi_dic_bool, isi_dic_str, isi_dic_tuple, isi_dic_list, isi_dic_dict, gcAll, gcAny, goMod, goFdiv, decide_eq_true_eq, Bool.not_eq_true', decide_eq_false_iff_not, ite_not, Bool.and_eq_true, not_false_eq_true, Bool.not_eq_true, List.map_append, Int.zero_add, List.any_cons, List.any_nil, Bool.true_and, Bool.or_false, Bool.xor_false, Bool.false_xor, Bool.true_xor, Bool.not_not, forall_const, Int.toNat_natCast, List.length_map, List.length_append, and_self, ne_eq, List.map_eq_nil_iff, not_true_eq_false, eq_self, goMulI, goSub, goPow, goLe, goGt, goGe, guNeg, gcAbs, goEq_str, goNe_str, goEq_tup, goNe_tup, goEq_lst, goNe_lst, goEq_non, goNe_non, gAndV_k, gOrV_k, gCh_k, blK_bl, ite_bf, reduceCtorEq, Int.reducePow, Int.reduceLT, Int.reduceLE, Int.reduceNeg, sz0, se0, sz1, se1, sz2, se2, sz3, se3, sz4, se4, sz5, se5, sz6, se6, sz7, se7, sz8, se8, sz9, se9, gFld, fldK_ref, gPutF, gPutFM, putFK_ref, gDrf, drfK_ref, gMApp, mlK_ref, gMPop, popK_int, gMIns, ins2K_2, insK_int, gMeth, mthK_ref, gMake, giR3, gFlR1, gFlR2, rg2K_int, gLenSet, lenSetK_lst, lenSetK_tup, gMinD, minDK_lst, giMem, giBA, gMIdx, goTab, gFsort, sortK_lst, sortK_tup, gStep, stepK_lst, gAppM, gDictV, gFdict, dictK_lst, dictK_tup, dictK_dic, gDic0, gFdic0, gDGet1, gDGet2, dicK_dic, gOPut, gOPop, giKeys, gPconsI, gDispV, goIx_dic, gcLen_dic, lstK_dic, truK_dic, getK, dgetK, gOIns, ins2K_2, insK_int, gCallL, gAct, gxAct, gLamT, lamS, lam1, entryL])
local macro_rules | `(tactic| wp_walk using $ts,*) => `(tactic| simp only [$[$ts:term],*, gSeq, gSet, gRet, gRetN, gNext, gIfS, gDrop, gOwn, gApp, gExt, gForM, gLcM, gCnt, gTryV, gTryE, gxP, gxM, DL.Fr.mute, gIPut, gFrz, frz, gAsg, gPar, gPar3, gAug, gRaise, gRetM, gSetM, gMPut, gMGet, g1, g2, gC, gV, gVw, gB, gAnd, gOr, gNot, gNotV, gIf, DL.gCons, DL.gNil, DL.gTup, DL.gLst, gFl, gFd, gCa, gLenS, gPart, gNoP, gDisp, gPcons, gPnil, gtN, gtTup, gtCons, gtNil, gYes, gFor, gLc, giS, gCallP, gCallM, gScr, entry, aSls, aSl, DL.Fr.set, OM.d, wipeF, wipeS, keyD, List.length_cons, List.length_nil, List.cons_append, List.nil_append, List.append_nil, List.replicate_succ, List.replicate_zero, List.getElem?_cons_zero, List.getElem?_cons_succ, List.getElem?_nil, List.set_cons_zero, List.set_cons_succ, Nat.reduceAdd, Nat.reduceSub, if_true, if_false, ite_true, ite_false, reduceIte, Bool.false_eq_true, Bool.not_true, Bool.not_false, List.all_cons, List.all_nil, Bool.and_true, true_and, and_true, List.map_cons, List.map_nil, gIdx, ixT_ints, intsOf_map, Int.reduceToNat, Option.some.injEq, exists_eq_left', goAdd_int, goAdd_str, goAdd_tup, goAdd_lst, goAddW_int, goAddW_lst, goPlus_int, goI_int, guI_int, gcI1_int, goIx_lst, gcLen_lst, gcTupleS_lst, gcList_lst, goRevA_lst, goIx_tup, gcLen_tup, gcTupleS_tup, gcList_tup, goRevA_tup, gcTuple_lst, goIx_str, gcLen_str, gcInt_int, gcInt_bl, goMulT_tup, goMulL_lst, goIsB_bl, goIsN_non, isN_int, isN_bl, isN_str, isN_tup, isN_lst, isN_dic, isN_ref, isN_ty, isN_non, gTru_k, truK_non, truK_bl, truK_int, truK_lst, truK_tup, truK_str, gFlist_k, lstK_lst, lstK_tup, gsSl_k, slK_lst, slK_tup, slK_str, itsD_k, itsK_lst, itsK_tup, giZip_k, zipK_lst, zipK_tup, giR1_k, ran1K_nat, ran1K_int, giR2_k, ran2K_int, goLtA_int, goLtA_tup, ok_non, eqv_bl, goEq_int, goNe_int, goEq_bl, goNe_bl, gcMin_ints, gcMinT_ints, gcMax_ints, gcMaxT_ints, intsOf_mapf, blsOf_mapf, gcMin_f, gcMax_f, gcMin_2, gcMax_2, gcSum_ints, gcSum_f, gcBls_f, all_mapid, any_mapid, at_0, at_1, at_2, at_3, at_last, noOwn_nil, noOwn_1, noOwn_2, nof_n, nof_v, nof_b, nof_s, zipD_map, enumD_map, isi_non_int, isi_non_bool, isi_non_str, isi_non_tuple, isi_non_list, isi_non_dict, isi_bl_int, isi_bl_bool, isi_bl_str, isi_bl_tuple, isi_bl_list, isi_bl_dict, isi_int_int, isi_int_bool, isi_int_str, isi_int_tuple, isi_int_list, isi_int_dict, isi_str_int, isi_str_bool, isi_str_str, isi_str_tuple, isi_str_list, isi_str_dict, isi_tup_int, isi_tup_bool, isi_tup_str, isi_tup_tuple, isi_tup_list, isi_tup_dict, isi_lst_int, isi_lst_bool, isi_lst_str, isi_lst_tuple, isi_lst_list, isi_lst_dict, isi_dic_int, isi_dic_bool, isi_dic_str, isi_dic_tuple, isi_dic_list, isi_dic_dict, gcAll, gcAny, goMod, goFdiv, decide_eq_true_eq, Bool.not_eq_true', decide_eq_false_iff_not, ite_not, Bool.and_eq_true, not_false_eq_true, Bool.not_eq_true, List.map_append, Int.zero_add, List.any_cons, List.any_nil, Bool.true_and, Bool.or_false, Bool.xor_false, Bool.false_xor, Bool.true_xor, Bool.not_not, forall_const, Int.toNat_natCast, List.length_map, List.length_append, and_self, ne_eq, List.map_eq_nil_iff, not_true_eq_false, eq_self, goMulI, goSub, goPow, goLe, goGt, goGe, guNeg, gcAbs, goEq_str, goNe_str, goEq_tup, goNe_tup, goEq_lst, goNe_lst, goEq_non, goNe_non, gAndV_k, gOrV_k, gCh_k, blK_bl, ite_bf, reduceCtorEq, Int.reducePow, Int.reduceLT, Int.reduceLE, Int.reduceNeg, sz0, se0, sz1, se1, sz2, se2, sz3, se3, sz4, se4, sz5, se5, sz6, se6, sz7, se7, sz8, se8, sz9, se9, gFld, fldK_ref, gPutF, gPutFM, putFK_ref, gDrf, drfK_ref, gMApp, mlK_ref, gMPop, popK_int, gMIns, ins2K_2, insK_int, gMeth, mthK_ref, gMake, giR3, gFlR1, gFlR2, rg2K_int, gLenSet, lenSetK_lst, lenSetK_tup, gMinD, minDK_lst, giMem, giBA, gMIdx, goTab, gFsort, sortK_lst, sortK_tup, gStep, stepK_lst, gAppM, gDictV, gFdict, dictK_lst, dictK_tup, dictK_dic, gDic0, gFdic0, gDGet1, gDGet2, dicK_dic, gOPut, gOPop, giKeys, gPconsI, gDispV, goIx_dic, gcLen_dic, lstK_dic, truK_dic, getK, dgetK, gOIns, ins2K_2, insK_int, gCallL, gAct, gxAct, gLamT, lamS, lam1, entryL])
variable {K : PySem.W.Frag}
set_option maxHeartbeats 1000000
end LW
namespace LW
open PySem PySem.Spec PySem.W PyProof.Rows L2 DL
local macro_rules | `(tactic| wp_walk) => `(tactic| simp only [gSeq, gSet, gRet, gRetN, gNext, gIfS, gDrop, gOwn, gApp, gExt, gForM, gLcM, gCnt, gTryV, gTryE, gxP, gxM, DL.Fr.mute, gIPut, gFrz, frz, gAsg, gPar, gPar3, gAug, gRaise, gRetM, gSetM, gMPut, gMGet, g1, g2, gC, gV, gVw, gB, gAnd, gOr, gNot, gNotV, gIf, DL.gCons, DL.gNil, DL.gTup, DL.gLst, gFl, gFd, gCa, gLenS, gPart, gNoP, gDisp, gPcons, gPnil, gtN, gtTup, gtCons, gtNil, gYes, gFor, gLc, giS, gCallP, gCallM, gScr, entry, aSls, aSl, DL.Fr.set, OM.d, wipeF, wipeS, keyD, List.length_cons, List.length_nil, List.cons_append, List.nil_append, List.append_nil, List.replicate_succ, List.replicate_zero, List.getElem?_cons_zero, List.getElem?_cons_succ, List.getElem?_nil, List.set_cons_zero, List.set_cons_succ, Nat.reduceAdd, Nat.reduceSub, if_true, if_false, ite_true, ite_false, reduceIte, Bool.false_eq_true, Bool.not_true, Bool.not_false, List.all_cons, List.all_nil, Bool.and_true, true_and, and_true, List.map_cons, List.map_nil, gIdx, ixT_ints, intsOf_map, Int.reduceToNat, Option.some.injEq, exists_eq_left', goAdd_int, goAdd_str, goAdd_tup, goAdd_lst, goAddW_int, goAddW_lst, goPlus_int, goI_int, guI_int, gcI1_int, goIx_lst, gcLen_lst, gcTupleS_lst, gcList_lst, goRevA_lst, goIx_tup, gcLen_tup, gcTupleS_tup, gcList_tup, goRevA_tup, gcTuple_lst, goIx_str, gcLen_str, gcInt_int, gcInt_bl, goMulT_tup, goMulL_lst, goIsB_bl, goIsN_non, isN_int, isN_bl, isN_str, isN_tup, isN_lst, isN_dic, isN_ref, isN_ty, isN_non, gTru_k, truK_non, truK_bl, truK_int, truK_lst, truK_tup, truK_str, gFlist_k, lstK_lst, lstK_tup, gsSl_k, slK_lst, slK_tup, slK_str, itsD_k, itsK_lst, itsK_tup, giZip_k, zipK_lst, zipK_tup, giR1_k, ran1K_nat, ran1K_int, giR2_k, ran2K_int, goLtA_int, goLtA_tup, ok_non, eqv_bl, goEq_int, goNe_int, goEq_bl, goNe_bl, gcMin_ints, gcMinT_ints, gcMax_ints, gcMaxT_ints, intsOf_mapf, blsOf_mapf, gcMin_f, gcMax_f, gcMin_2, gcMax_2, gcSum_ints, gcSum_f, gcBls_f, all_mapid, any_mapid, at_0, at_1, at_2, at_3, at_last, noOwn_nil, noOwn_1, noOwn_2, nof_n, nof_v, nof_b, nof_s, zipD_map, enumD_map, isi_non_int, isi_non_bool, isi_non_str, isi_non_tuple, isi_non_list, isi_non_dict, isi_bl_int, isi_bl_bool, isi_bl_str, isi_bl_tuple, isi_bl_list, isi_bl_dict, isi_int_int, isi_int_bool, isi_int_str, isi_int_tuple, isi_int_list, isi_int_dict, isi_str_int, isi_str_bool, isi_str_str, isi_str_tuple, isi_str_list, isi_str_dict, isi_tup_int, isi_tup_bool, isi_tup_str, isi_tup_tuple, isi_tup_list, isi_tup_dict, isi_lst_int, isi_lst_bool, isi_lst_str, isi_lst_tuple, isi_lst_list, isi_lst_dict, isi_dic_int, isi_dic_bool, isi_dic_str, isi_dic_tuple, isi_dic_list, isi_dic_dict, gcAll, gcAny, goMod, goFdiv, decide_eq_true_eq, Bool.not_eq_true', decide_eq_false_iff_not, ite_not, Bool.and_eq_true, not_false_eq_true, Bool.not_eq_true, List.map_append, Int.zero_add, List.any_cons, List.any_nil, Bool.true_and, Bool.or_false, Bool.xor_false, Bool.false_xor, Bool.true_xor, Bool.not_not, forall_const, Int.toNat_natCast, List.length_map, List.length_append, and_self, ne_eq, List.map_eq_nil_iff, not_true_eq_false, eq_self, goMulI, goSub, goPow, goLe, goGt, goGe, guNeg, gcAbs, goEq_str, goNe_str, goEq_tup, goNe_tup, goEq_lst, goNe_lst, goEq_non, goNe_non, gAndV_k, gOrV_k, gCh_k, blK_bl, ite_bf, reduceCtorEq, Int.reducePow, Int.reduceLT, Int.reduceLE, Int.reduceNeg, sz0, se0, sz1, se1, sz2, se2, sz3, se3, sz4, se4, sz5, se5, sz6, se6, sz7, se7, sz8, se8, sz9, se9, gFld, fldK_ref, gPutF, gPutFM, putFK_ref, gDrf, drfK_ref, gMApp, mlK_ref, gMPop, popK_int, gMIns, ins2K_2, insK_int, gMeth, mthK_ref, gMake, giR3, gFlR1, gFlR2, rg2K_int, gLenSet, lenSetK_lst, lenSetK_tup, gMinD, minDK_lst, giMem, giBA, gMIdx, goTab, gFsort, sortK_lst, sortK_tup])
local macro_rules | `(tactic| wp_walk using $ts,*) => `(tactic| simp only [$[$ts:term],*, gSeq, gSet, gRet, gRetN, gNext, gIfS, gDrop, gOwn, gApp, gExt, gForM, gLcM, gCnt, gTryV, gTryE, gxP, gxM, DL.Fr.mute, gIPut, gFrz, frz, gAsg, gPar, gPar3, gAug, gRaise, gRetM, gSetM, gMPut, gMGet, g1, g2, gC, gV, gVw, gB, gAnd, gOr, gNot, gNotV, gIf, DL.gCons, DL.gNil, DL.gTup, DL.gLst, gFl, gFd, gCa, gLenS, gPart, gNoP, gDisp, gPcons, gPnil, gtN, gtTup, gtCons, gtNil, gYes, gFor, gLc, giS, gCallP, gCallM, gScr, entry, aSls, aSl, DL.Fr.set, OM.d, wipeF, wipeS, keyD, List.length_cons, List.length_nil, List.cons_append, List.nil_append, List.append_nil, List.replicate_succ, List.replicate_zero, List.getElem?_cons_zero, List.getElem?_cons_succ, List.getElem?_nil, List.set_cons_zero, List.set_cons_succ, Nat.reduceAdd, Nat.reduceSub, if_true, if_false, ite_true, ite_false, reduceIte, Bool.false_eq_true, Bool.not_true, Bool.not_false, List.all_cons, List.all_nil, Bool.and_true, true_and, and_true, List.map_cons, List.map_nil, gIdx, ixT_ints, intsOf_map, Int.reduceToNat, Option.some.injEq, exists_eq_left', goAdd_int, goAdd_str, goAdd_tup, goAdd_lst, goAddW_int, goAddW_lst, goPlus_int, goI_int, guI_int, gcI1_int, goIx_lst, gcLen_lst, gcTupleS_lst, gcList_lst, goRevA_lst, goIx_tup, gcLen_tup, gcTupleS_tup, gcList_tup, goRevA_tup, gcTuple_lst, goIx_str, gcLen_str, gcInt_int, gcInt_bl, goMulT_tup, goMulL_lst, goIsB_bl, goIsN_non, isN_int, isN_bl, isN_str, isN_tup, isN_lst, isN_dic, isN_ref, isN_ty, isN_non, gTru_k, truK_non, truK_bl, truK_int, truK_lst, truK_tup, truK_str, gFlist_k, lstK_lst, lstK_tup, gsSl_k, slK_lst, slK_tup, slK_str, itsD_k, itsK_lst, itsK_tup, giZip_k, zipK_lst, zipK_tup, giR1_k, ran1K_nat, ran1K_int, giR2_k, ran2K_int, goLtA_int, goLtA_tup, ok_non, eqv_bl, goEq_int, goNe_int, goEq_bl, goNe_bl, gcMin_ints, gcMinT_ints, gcMax_ints, gcMaxT_ints, intsOf_mapf, blsOf_mapf, gcMin_f, gcMax_f, gcMin_2, gcMax_2, gcSum_ints, gcSum_f, gcBls_f, all_mapid, any_mapid, at_0, at_1, at_2, at_3, at_last, noOwn_nil, noOwn_1, noOwn_2, nof_n, nof_v, nof_b, nof_s, zipD_map, enumD_map, isi_non_int, isi_non_bool, isi_non_str, isi_non_tuple, isi_non_list, isi_non_dict, isi_bl_int, isi_bl_bool, isi_bl_str, isi_bl_tuple, isi_bl_list, isi_bl_dict, isi_int_int, isi_int_bool, isi_int_str, isi_int_tuple, isi_int_list, isi_int_dict, isi_str_int, isi_str_bool, isi_str_str, isi_str_tuple, isi_str_list, isi_str_dict, isi_tup_int, isi_tup_bool, isi_tup_str, isi_tup_tuple, isi_tup_list, isi_tup_dict, isi_lst_int, isi_lst_bool, isi_lst_str, isi_lst_tuple, isi_lst_list, isi_lst_dict, isi_dic_int, isi_dic_bool, isi_dic_str, isi_dic_tuple, isi_dic_list, isi_dic_dict, gcAll, gcAny, goMod, goFdiv, decide_eq_true_eq, Bool.not_eq_true', decide_eq_false_iff_not, ite_not, Bool.and_eq_true, not_false_eq_true, Bool.not_eq_true, List.map_append, Int.zero_add, List.any_cons, List.any_nil, Bool.true_and, Bool.or_false, Bool.xor_false, Bool.false_xor, Bool.true_xor, Bool.not_not, forall_const, Int.toNat_natCast, List.length_map, List.length_append, and_self, ne_eq, List.map_eq_nil_iff, not_true_eq_false, eq_self, goMulI, goSub, goPow, goLe, goGt, goGe, guNeg, gcAbs, goEq_str, goNe_str, goEq_tup, goNe_tup, goEq_lst, goNe_lst, goEq_non, goNe_non, gAndV_k, gOrV_k, gCh_k, blK_bl, ite_bf, reduceCtorEq, Int.reducePow, Int.reduceLT, Int.reduceLE, Int.reduceNeg, sz0, se0, sz1, se1, sz2, se2, sz3, se3, sz4, se4, sz5, se5, sz6, se6, sz7, se7, sz8, se8, sz9, se9, gFld, fldK_ref, gPutF, gPutFM, putFK_ref, gDrf, drfK_ref, gMApp, mlK_ref, gMPop, popK_int, gMIns, ins2K_2, insK_int, gMeth, mthK_ref, gMake, giR3, gFlR1, gFlR2, rg2K_int, gLenSet, lenSetK_lst, lenSetK_tup, gMinD, minDK_lst, giMem, giBA, gMIdx, goTab, gFsort, sortK_lst, sortK_tup])
/-- a loop over range(n), by how many turns are done -/
theorem loop_rng {gt : GG} {gb : GS} {D' : DEnds} (I : Nat → DL.Fr → Mem → Prop) (n : Nat) (h0 : ∀ r M, I n r M → D'.nx r M)
    (h1 : ∀ j < n, ∀ r M, I j r M → ∀ N : DL.Fr → Mem → Prop, (∀ r M, I (j + 1) r M → N r M) → gt (D.int (0 + (j : Nat))) r M fun r' M' => gb { D' with nx := N, ct := N, bk := D'.nx } r' M') :
    ∀ r M, I 0 r M → loopD gt gb ((List.range n).map fun i : Nat => D.int (0 + i)) D' r M := by
  have key := loop_mp (gt := gt) (gb := gb) (D' := D') (enc := fun (i : Nat) => D.int (0 + i)) (fun is r M => ∃ j ≤ n, is = (List.range n).drop j ∧ I j r M) ?_ ?_ (List.range n)
  · exact fun r M h => key r M ⟨0, Nat.zero_le _, rfl, h⟩
  · rintro r M ⟨j, hj, e, h⟩
    have hl := congrArg List.length e
    rw [List.length_drop, List.length_range, List.length_nil] at hl
    have : j = n := by omega
    subst this
    exact h0 r M h
  · rintro i is r M ⟨j, hj, e, h⟩ N hN
    have hl := congrArg List.length e
    rw [List.length_drop, List.length_range, List.length_cons] at hl
    have hjn : j < n := by omega
    rw [List.drop_eq_getElem_cons (by rw [List.length_range]; exact hjn)] at e
    obtain ⟨e1, e2⟩ := List.cons.inj e
    rw [List.getElem_range] at e1
    subst e1
    exact h1 i hjn r M h N fun r M h => hN r M ⟨i + 1, hjn, e2, h⟩
end LW
namespace LW
open PySem PySem.Spec PySem.W PyProof.Rows L2 DL
local macro_rules | `(tactic| wp_walk) => `(tactic| simp only [gSeq, gSet, gRet, gRetN, gNext, gIfS, gDrop, gOwn, gApp, gExt, gForM, gLcM, gCnt, gTryV, gTryE, gxP, gxM, DL.Fr.mute, gIPut, gFrz, frz, gAsg, gPar, gPar3, gAug, gRaise, gRetM, gSetM, gMPut, gMGet, g1, g2, gC, gV, gVw, gB, gAnd, gOr, gNot, gNotV, gIf, DL.gCons, DL.gNil, DL.gTup, DL.gLst, gFl, gFd, gCa, gLenS, gPart, gNoP, gDisp, gPcons, gPnil, gtN, gtTup, gtCons, gtNil, gYes, gFor, gLc, giS, gCallP, gCallM, gScr, entry, aSls, aSl, DL.Fr.set, OM.d, wipeF, wipeS, keyD, List.length_cons, List.length_nil, List.cons_append, List.nil_append, List.append_nil, List.replicate_succ, List.replicate_zero, List.getElem?_cons_zero, List.getElem?_cons_succ, List.getElem?_nil, List.set_cons_zero, List.set_cons_succ, Nat.reduceAdd, Nat.reduceSub, if_true, if_false, ite_true, ite_false, reduceIte, Bool.false_eq_true, Bool.not_true, Bool.not_false, List.all_cons, List.all_nil, Bool.and_true, true_and, and_true, List.map_cons, List.map_nil, gIdx, ixT_ints, intsOf_map, Int.reduceToNat, Option.some.injEq, exists_eq_left', goAdd_int, goAdd_str, goAdd_tup, goAdd_lst, goAddW_int, goAddW_lst, goPlus_int, goI_int, guI_int, gcI1_int, goIx_lst, gcLen_lst, gcTupleS_lst, gcList_lst, goRevA_lst, goIx_tup, gcLen_tup, gcTupleS_tup, gcList_tup, goRevA_tup, gcTuple_lst, goIx_str, gcLen_str, gcInt_int, gcInt_bl, goMulT_tup, goMulL_lst, goIsB_bl, goIsN_non, isN_int, isN_bl, isN_str, isN_tup, isN_lst, isN_dic, isN_ref, isN_ty, isN_non, gTru_k, truK_non, truK_bl, truK_int, truK_lst, truK_tup, truK_str, gFlist_k, lstK_lst, lstK_tup, gsSl_k, slK_lst, slK_tup, slK_str, itsD_k, itsK_lst, itsK_tup, giZip_k, zipK_lst, zipK_tup, giR1_k, ran1K_nat, ran1K_int, giR2_k, ran2K_int, goLtA_int, goLtA_tup, ok_non, eqv_bl, goEq_int, goNe_int, goEq_bl, goNe_bl, gcMin_ints, gcMinT_ints, gcMax_ints, gcMaxT_ints, intsOf_mapf, blsOf_mapf, gcMin_f, gcMax_f, gcMin_2, gcMax_2, gcSum_ints, gcSum_f, gcBls_f, all_mapid, any_mapid, at_0, at_1, at_2, at_3, at_last, noOwn_nil, noOwn_1, noOwn_2, nof_n, nof_v, nof_b, nof_s, zipD_map, enumD_map, isi_non_int, isi_non_bool, isi_non_str, isi_non_tuple, isi_non_list, isi_non_dict, isi_bl_int, isi_bl_bool, isi_bl_str, isi_bl_tuple, isi_bl_list, isi_bl_dict, isi_int_int, isi_int_bool, isi_int_str, isi_int_tuple, isi_int_list, isi_int_dict, isi_str_int, isi_str_bool, isi_str_str, isi_str_tuple, isi_str_list, isi_str_dict, isi_tup_int, isi_tup_bool, isi_tup_str, isi_tup_tuple, isi_tup_list, isi_tup_dict, isi_lst_int, isi_lst_bool, isi_lst_str, isi_lst_tuple, isi_lst_list, isi_lst_dict, isi_dic_int, isi_dic_bool, isi_dic_str, isi_dic_tuple, isi_dic_list, isi_dic_dict, gcAll, gcAny, goMod, goFdiv, decide_eq_true_eq, Bool.not_eq_true', decide_eq_false_iff_not, ite_not, Bool.and_eq_true, not_false_eq_true, Bool.not_eq_true, List.map_append, Int.zero_add, List.any_cons, List.any_nil, Bool.true_and, Bool.or_false, Bool.xor_false, Bool.false_xor, Bool.true_xor, Bool.not_not, forall_const, Int.toNat_natCast, List.length_map, List.length_append, and_self, ne_eq, List.map_eq_nil_iff, not_true_eq_false, eq_self, goMulI, goSub, goPow, goLe, goGt, goGe, guNeg, gcAbs, goEq_str, goNe_str, goEq_tup, goNe_tup, goEq_lst, goNe_lst, goEq_non, goNe_non, gAndV_k, gOrV_k, gCh_k, blK_bl, ite_bf, reduceCtorEq, Int.reducePow, Int.reduceLT, Int.reduceLE, Int.reduceNeg, sz0, se0, sz1, se1, sz2, se2, sz3, se3, sz4, se4, sz5, se5, sz6, se6, sz7, se7, sz8, se8, sz9, se9, gFld, fldK_ref, gPutF, gPutFM, putFK_ref, gDrf, drfK_ref, gMApp, mlK_ref, gMPop, popK_int, gMIns, ins2K_2, insK_int, gMeth, mthK_ref, gMake, giR3, gFlR1, gFlR2, rg2K_int, gLenSet, lenSetK_lst, lenSetK_tup, gMinD, minDK_lst, giMem, giBA, gMIdx, goTab, gFsort, sortK_lst, sortK_tup])
local macro_rules | `(tactic| wp_walk using $ts,*) => `(tactic| simp only [$[$ts:term],*, gSeq, gSet, gRet, gRetN, gNext, gIfS, gDrop, gOwn, gApp, gExt, gForM, gLcM, gCnt, gTryV, gTryE, gxP, gxM, DL.Fr.mute, gIPut, gFrz, frz, gAsg, gPar, gPar3, gAug, gRaise, gRetM, gSetM, gMPut, gMGet, g1, g2, gC, gV, gVw, gB, gAnd, gOr, gNot, gNotV, gIf, DL.gCons, DL.gNil, DL.gTup, DL.gLst, gFl, gFd, gCa, gLenS, gPart, gNoP, gDisp, gPcons, gPnil, gtN, gtTup, gtCons, gtNil, gYes, gFor, gLc, giS, gCallP, gCallM, gScr, entry, aSls, aSl, DL.Fr.set, OM.d, wipeF, wipeS, keyD, List.length_cons, List.length_nil, List.cons_append, List.nil_append, List.append_nil, List.replicate_succ, List.replicate_zero, List.getElem?_cons_zero, List.getElem?_cons_succ, List.getElem?_nil, List.set_cons_zero, List.set_cons_succ, Nat.reduceAdd, Nat.reduceSub, if_true, if_false, ite_true, ite_false, reduceIte, Bool.false_eq_true, Bool.not_true, Bool.not_false, List.all_cons, List.all_nil, Bool.and_true, true_and, and_true, List.map_cons, List.map_nil, gIdx, ixT_ints, intsOf_map, Int.reduceToNat, Option.some.injEq, exists_eq_left', goAdd_int, goAdd_str, goAdd_tup, goAdd_lst, goAddW_int, goAddW_lst, goPlus_int, goI_int, guI_int, gcI1_int, goIx_lst, gcLen_lst, gcTupleS_lst, gcList_lst, goRevA_lst, goIx_tup, gcLen_tup, gcTupleS_tup, gcList_tup, goRevA_tup, gcTuple_lst, goIx_str, gcLen_str, gcInt_int, gcInt_bl, goMulT_tup, goMulL_lst, goIsB_bl, goIsN_non, isN_int, isN_bl, isN_str, isN_tup, isN_lst, isN_dic, isN_ref, isN_ty, isN_non, gTru_k, truK_non, truK_bl, truK_int, truK_lst, truK_tup, truK_str, gFlist_k, lstK_lst, lstK_tup, gsSl_k, slK_lst, slK_tup, slK_str, itsD_k, itsK_lst, itsK_tup, giZip_k, zipK_lst, zipK_tup, giR1_k, ran1K_nat, ran1K_int, giR2_k, ran2K_int, goLtA_int, goLtA_tup, ok_non, eqv_bl, goEq_int, goNe_int, goEq_bl, goNe_bl, gcMin_ints, gcMinT_ints, gcMax_ints, gcMaxT_ints, intsOf_mapf, blsOf_mapf, gcMin_f, gcMax_f, gcMin_2, gcMax_2, gcSum_ints, gcSum_f, gcBls_f, all_mapid, any_mapid, at_0, at_1, at_2, at_3, at_last, noOwn_nil, noOwn_1, noOwn_2, nof_n, nof_v, nof_b, nof_s, zipD_map, enumD_map, isi_non_int, isi_non_bool, isi_non_str, isi_non_tuple, isi_non_list, isi_non_dict, isi_bl_int, isi_bl_bool, isi_bl_str, isi_bl_tuple, isi_bl_list, isi_bl_dict, isi_int_int, isi_int_bool, isi_int_str, isi_int_tuple, isi_int_list, isi_int_dict, isi_str_int, isi_str_bool, isi_str_str, isi_str_tuple, isi_str_list, isi_str_dict, isi_tup_int, isi_tup_bool, isi_tup_str, isi_tup_tuple, isi_tup_list, isi_tup_dict, isi_lst_int, isi_lst_bool, isi_lst_str, isi_lst_tuple, isi_lst_list, isi_lst_dict, isi_dic_int, isi_dic_bool, isi_dic_str, isi_dic_tuple, isi_dic_list, isi_dic_dict, gcAll, gcAny, goMod, goFdiv, decide_eq_true_eq, Bool.not_eq_true', decide_eq_false_iff_not, ite_not, Bool.and_eq_true, not_false_eq_true, Bool.not_eq_true, List.map_append, Int.zero_add, List.any_cons, List.any_nil, Bool.true_and, Bool.or_false, Bool.xor_false, Bool.false_xor, Bool.true_xor, Bool.not_not, forall_const, Int.toNat_natCast, List.length_map, List.length_append, and_self, ne_eq, List.map_eq_nil_iff, not_true_eq_false, eq_self, goMulI, goSub, goPow, goLe, goGt, goGe, guNeg, gcAbs, goEq_str, goNe_str, goEq_tup, goNe_tup, goEq_lst, goNe_lst, goEq_non, goNe_non, gAndV_k, gOrV_k, gCh_k, blK_bl, ite_bf, reduceCtorEq, Int.reducePow, Int.reduceLT, Int.reduceLE, Int.reduceNeg, sz0, se0, sz1, se1, sz2, se2, sz3, se3, sz4, se4, sz5, se5, sz6, se6, sz7, se7, sz8, se8, sz9, se9, gFld, fldK_ref, gPutF, gPutFM, putFK_ref, gDrf, drfK_ref, gMApp, mlK_ref, gMPop, popK_int, gMIns, ins2K_2, insK_int, gMeth, mthK_ref, gMake, giR3, gFlR1, gFlR2, rg2K_int, gLenSet, lenSetK_lst, lenSetK_tup, gMinD, minDK_lst, giMem, giBA, gMIdx, goTab, gFsort, sortK_lst, sortK_tup])
variable {K : PySem.W.Frag}
end LW
namespace LW
open PySem PySem.Spec PySem.W PyProof.Rows L2 DL
local macro_rules | `(tactic| wp_walk) => `(tactic| simp only [gSeq, gSet, gRet, gRetN, gNext, gIfS, gDrop, gOwn, gApp, gExt, gForM, gLcM, gCnt, gTryV, gTryE, gxP, gxM, DL.Fr.mute, gIPut, gFrz, frz, gAsg, gPar, gPar3, gAug, gRaise, gRetM, gSetM, gMPut, gMGet, g1, g2, gC, gV, gVw, gB, gAnd, gOr, gNot, gNotV, gIf, DL.gCons, DL.gNil, DL.gTup, DL.gLst, gFl, gFd, gCa, gLenS, gPart, gNoP, gDisp, gPcons, gPnil, gtN, gtTup, gtCons, gtNil, gYes, gFor, gLc, giS, gCallP, gCallM, gScr, entry, aSls, aSl, DL.Fr.set, OM.d, wipeF, wipeS, keyD, List.length_cons, List.length_nil, List.cons_append, List.nil_append, List.append_nil, List.replicate_succ, List.replicate_zero, List.getElem?_cons_zero, List.getElem?_cons_succ, List.getElem?_nil, List.set_cons_zero, List.set_cons_succ, Nat.reduceAdd, Nat.reduceSub, if_true, if_false, ite_true, ite_false, reduceIte, Bool.false_eq_true, Bool.not_true, Bool.not_false, List.all_cons, List.all_nil, Bool.and_true, true_and, and_true, List.map_cons, List.map_nil, gIdx, ixT_ints, intsOf_map, Int.reduceToNat, Option.some.injEq, exists_eq_left', goAdd_int, goAdd_str, goAdd_tup, goAdd_lst, goAddW_int, goAddW_lst, goPlus_int, goI_int, guI_int, gcI1_int, goIx_lst, gcLen_lst, gcTupleS_lst, gcList_lst, goRevA_lst, goIx_tup, gcLen_tup, gcTupleS_tup, gcList_tup, goRevA_tup, gcTuple_lst, goIx_str, gcLen_str, gcInt_int, gcInt_bl, goMulT_tup, goMulL_lst, goIsB_bl, goIsN_non, isN_int, isN_bl, isN_str, isN_tup, isN_lst, isN_dic, isN_ref, isN_ty, isN_non, gTru_k, truK_non, truK_bl, truK_int, truK_lst, truK_tup, truK_str, gFlist_k, lstK_lst, lstK_tup, gsSl_k, slK_lst, slK_tup, slK_str, itsD_k, itsK_lst, itsK_tup, giZip_k, zipK_lst, zipK_tup, giR1_k, ran1K_nat, ran1K_int, giR2_k, ran2K_int, goLtA_int, goLtA_tup, ok_non, eqv_bl, goEq_int, goNe_int, goEq_bl, goNe_bl, gcMin_ints, gcMinT_ints, gcMax_ints, gcMaxT_ints, intsOf_mapf, blsOf_mapf, gcMin_f, gcMax_f, gcMin_2, gcMax_2, gcSum_ints, gcSum_f, gcBls_f, all_mapid, any_mapid, at_0, at_1, at_2, at_3, at_last, noOwn_nil, noOwn_1, noOwn_2, nof_n, nof_v, nof_b, nof_s, zipD_map, enumD_map, isi_non_int, isi_non_bool, isi_non_str, isi_non_tuple, isi_non_list, isi_non_dict, isi_bl_int, isi_bl_bool, isi_bl_str, isi_bl_tuple, isi_bl_list, isi_bl_dict, isi_int_int, isi_int_bool, isi_int_str, isi_int_tuple, isi_int_list, isi_int_dict, isi_str_int, isi_str_bool, isi_str_str, isi_str_tuple, isi_str_list, isi_str_dict, isi_tup_int, isi_tup_bool, isi_tup_str, isi_tup_tuple, isi_tup_list, isi_tup_dict, isi_lst_int, isi_lst_bool, isi_lst_str, isi_lst_tuple, isi_lst_list, isi_lst_dict, isi_dic_int, isi_dic_bool, isi_dic_str, isi_dic_tuple, isi_dic_list, isi_dic_dict, gcAll, gcAny, goMod, goFdiv, decide_eq_true_eq, Bool.not_eq_true', decide_eq_false_iff_not, ite_not, Bool.and_eq_true, not_false_eq_true, Bool.not_eq_true, List.map_append, Int.zero_add, List.any_cons, List.any_nil, Bool.true_and, Bool.or_false, Bool.xor_false, Bool.false_xor, Bool.true_xor, Bool.not_not, forall_const, Int.toNat_natCast, List.length_map, List.length_append, and_self, ne_eq, List.map_eq_nil_iff, not_true_eq_false, eq_self, goMulI, goSub, goPow, goLe, goGt, goGe, guNeg, gcAbs, goEq_str, goNe_str, goEq_tup, goNe_tup, goEq_lst, goNe_lst, goEq_non, goNe_non, gAndV_k, gOrV_k, gCh_k, blK_bl, ite_bf, reduceCtorEq, Int.reducePow, Int.reduceLT, Int.reduceLE, Int.reduceNeg, sz0, se0, sz1, se1, sz2, se2, sz3, se3, sz4, se4, sz5, se5, sz6, se6, sz7, se7, sz8, se8, sz9, se9, gFld, fldK_ref, gPutF, gPutFM, putFK_ref, gDrf, drfK_ref, gMApp, mlK_ref, gMPop, popK_int, gMIns, ins2K_2, insK_int, gMeth, mthK_ref, gMake, giR3, gFlR1, gFlR2, rg2K_int, gLenSet, lenSetK_lst, lenSetK_tup, gMinD, minDK_lst, giMem, giBA, gMIdx, goTab, gFsort, sortK_lst, sortK_tup])
local macro_rules | `(tactic| wp_walk using $ts,*) => `(tactic| simp only [$[$ts:term],*, gSeq, gSet, gRet, gRetN, gNext, gIfS, gDrop, gOwn, gApp, gExt, gForM, gLcM, gCnt, gTryV, gTryE, gxP, gxM, DL.Fr.mute, gIPut, gFrz, frz, gAsg, gPar, gPar3, gAug, gRaise, gRetM, gSetM, gMPut, gMGet, g1, g2, gC, gV, gVw, gB, gAnd, gOr, gNot, gNotV, gIf, DL.gCons, DL.gNil, DL.gTup, DL.gLst, gFl, gFd, gCa, gLenS, gPart, gNoP, gDisp, gPcons, gPnil, gtN, gtTup, gtCons, gtNil, gYes, gFor, gLc, giS, gCallP, gCallM, gScr, entry, aSls, aSl, DL.Fr.set, OM.d, wipeF, wipeS, keyD, List.length_cons, List.length_nil, List.cons_append, List.nil_append, List.append_nil, List.replicate_succ, List.replicate_zero, List.getElem?_cons_zero, List.getElem?_cons_succ, List.getElem?_nil, List.set_cons_zero, List.set_cons_succ, Nat.reduceAdd, Nat.reduceSub, if_true, if_false, ite_true, ite_false, reduceIte, Bool.false_eq_true, Bool.not_true, Bool.not_false, List.all_cons, List.all_nil, Bool.and_true, true_and, and_true, List.map_cons, List.map_nil, gIdx, ixT_ints, intsOf_map, Int.reduceToNat, Option.some.injEq, exists_eq_left', goAdd_int, goAdd_str, goAdd_tup, goAdd_lst, goAddW_int, goAddW_lst, goPlus_int, goI_int, guI_int, gcI1_int, goIx_lst, gcLen_lst, gcTupleS_lst, gcList_lst, goRevA_lst, goIx_tup, gcLen_tup, gcTupleS_tup, gcList_tup, goRevA_tup, gcTuple_lst, goIx_str, gcLen_str, gcInt_int, gcInt_bl, goMulT_tup, goMulL_lst, goIsB_bl, goIsN_non, isN_int, isN_bl, isN_str, isN_tup, isN_lst, isN_dic, isN_ref, isN_ty, isN_non, gTru_k, truK_non, truK_bl, truK_int, truK_lst, truK_tup, truK_str, gFlist_k, lstK_lst, lstK_tup, gsSl_k, slK_lst, slK_tup, slK_str, itsD_k, itsK_lst, itsK_tup, giZip_k, zipK_lst, zipK_tup, giR1_k, ran1K_nat, ran1K_int, giR2_k, ran2K_int, goLtA_int, goLtA_tup, ok_non, eqv_bl, goEq_int, goNe_int, goEq_bl, goNe_bl, gcMin_ints, gcMinT_ints, gcMax_ints, gcMaxT_ints, intsOf_mapf, blsOf_mapf, gcMin_f, gcMax_f, gcMin_2, gcMax_2, gcSum_ints, gcSum_f, gcBls_f, all_mapid, any_mapid, at_0, at_1, at_2, at_3, at_last, noOwn_nil, noOwn_1, noOwn_2, nof_n, nof_v, nof_b, nof_s, zipD_map, enumD_map, isi_non_int, isi_non_bool, isi_non_str, isi_non_tuple, isi_non_list, isi_non_dict, isi_bl_int, isi_bl_bool, isi_bl_str, isi_bl_tuple, isi_bl_list, isi_bl_dict, isi_int_int, isi_int_bool, isi_int_str, isi_int_tuple, isi_int_list, isi_int_dict, isi_str_int, isi_str_bool, isi_str_str, isi_str_tuple, isi_str_list, isi_str_dict, isi_tup_int, isi_tup_bool, isi_tup_str, isi_tup_tuple, isi_tup_list, isi_tup_dict, isi_lst_int, isi_lst_bool, isi_lst_str, isi_lst_tuple, isi_lst_list, isi_lst_dict, isi_dic_int, isi_dic_bool, isi_dic_str, isi_dic_tuple, isi_dic_list, isi_dic_dict, gcAll, gcAny, goMod, goFdiv, decide_eq_true_eq, Bool.not_eq_true', decide_eq_false_iff_not, ite_not, Bool.and_eq_true, not_false_eq_true, Bool.not_eq_true, List.map_append, Int.zero_add, List.any_cons, List.any_nil, Bool.true_and, Bool.or_false, Bool.xor_false, Bool.false_xor, Bool.true_xor, Bool.not_not, forall_const, Int.toNat_natCast, List.length_map, List.length_append, and_self, ne_eq, List.map_eq_nil_iff, not_true_eq_false, eq_self, goMulI, goSub, goPow, goLe, goGt, goGe, guNeg, gcAbs, goEq_str, goNe_str, goEq_tup, goNe_tup, goEq_lst, goNe_lst, goEq_non, goNe_non, gAndV_k, gOrV_k, gCh_k, blK_bl, ite_bf, reduceCtorEq, Int.reducePow, Int.reduceLT, Int.reduceLE, Int.reduceNeg, sz0, se0, sz1, se1, sz2, se2, sz3, se3, sz4, se4, sz5, se5, sz6, se6, sz7, se7, sz8, se8, sz9, se9, gFld, fldK_ref, gPutF, gPutFM, putFK_ref, gDrf, drfK_ref, gMApp, mlK_ref, gMPop, popK_int, gMIns, ins2K_2, insK_int, gMeth, mthK_ref, gMake, giR3, gFlR1, gFlR2, rg2K_int, gLenSet, lenSetK_lst, lenSetK_tup, gMinD, minDK_lst, giMem, giBA, gMIdx, goTab, gFsort, sortK_lst, sortK_tup])
end LW
namespace LW
open PySem PySem.Spec PySem.W PyProof.Rows L2 DL
local macro_rules | `(tactic| wp_walk) => `(tactic| simp only [gSeq, gSet, gRet, gRetN, gNext, gIfS, gDrop, gOwn, gApp, gExt, gForM, gLcM, gCnt, gTryV, gTryE, gxP, gxM, DL.Fr.mute, gIPut, gFrz, frz, gAsg, gPar, gPar3, gAug, gRaise, gRetM, gSetM, gMPut, gMGet, g1, g2, gC, gV, gVw, gB, gAnd, gOr, gNot, gNotV, gIf, DL.gCons, DL.gNil, DL.gTup, DL.gLst, gFl, gFd, gCa, gLenS, gPart, gNoP, gDisp, gPcons, gPnil, gtN, gtTup, gtCons, gtNil, gYes, gFor, gLc, giS, gCallP, gCallM, gScr, entry, aSls, aSl, DL.Fr.set, OM.d, wipeF, wipeS, keyD, List.length_cons, List.length_nil, List.cons_append, List.nil_append, List.append_nil, List.replicate_succ, List.replicate_zero, List.getElem?_cons_zero, List.getElem?_cons_succ, List.getElem?_nil, List.set_cons_zero, List.set_cons_succ, Nat.reduceAdd, Nat.reduceSub, if_true, if_false, ite_true, ite_false, reduceIte, Bool.false_eq_true, Bool.not_true, Bool.not_false, List.all_cons, List.all_nil, Bool.and_true, true_and, and_true, List.map_cons, List.map_nil, gIdx, ixT_ints, intsOf_map, Int.reduceToNat, Option.some.injEq, exists_eq_left', goAdd_int, goAdd_str, goAdd_tup, goAdd_lst, goAddW_int, goAddW_lst, goPlus_int, goI_int, guI_int, gcI1_int, goIx_lst, gcLen_lst, gcTupleS_lst, gcList_lst, goRevA_lst, goIx_tup, gcLen_tup, gcTupleS_tup, gcList_tup, goRevA_tup, gcTuple_lst, goIx_str, gcLen_str, gcInt_int, gcInt_bl, goMulT_tup, goMulL_lst, goIsB_bl, goIsN_non, isN_int, isN_bl, isN_str, isN_tup, isN_lst, isN_dic, isN_ref, isN_ty, isN_non, gTru_k, truK_non, truK_bl, truK_int, truK_lst, truK_tup, truK_str, gFlist_k, lstK_lst, lstK_tup, gsSl_k, slK_lst, slK_tup, slK_str, itsD_k, itsK_lst, itsK_tup, giZip_k, zipK_lst, zipK_tup, giR1_k, ran1K_nat, ran1K_int, giR2_k, ran2K_int, goLtA_int, goLtA_tup, ok_non, eqv_bl, goEq_int, goNe_int, goEq_bl, goNe_bl, gcMin_ints, gcMinT_ints, gcMax_ints, gcMaxT_ints, intsOf_mapf, blsOf_mapf, gcMin_f, gcMax_f, gcMin_2, gcMax_2, gcSum_ints, gcSum_f, gcBls_f, all_mapid, any_mapid, at_0, at_1, at_2, at_3, at_last, noOwn_nil, noOwn_1, noOwn_2, nof_n, nof_v, nof_b, nof_s, zipD_map, enumD_map, isi_non_int, isi_non_bool, isi_non_str, isi_non_tuple, isi_non_list, isi_non_dict, isi_bl_int, isi_bl_bool, isi_bl_str, isi_bl_tuple, isi_bl_list, isi_bl_dict, isi_int_int, isi_int_bool, isi_int_str, isi_int_tuple, isi_int_list, isi_int_dict, isi_str_int, isi_str_bool, isi_str_str, isi_str_tuple, isi_str_list, isi_str_dict, isi_tup_int, isi_tup_bool, isi_tup_str, isi_tup_tuple, isi_tup_list, isi_tup_dict, isi_lst_int, isi_lst_bool, isi_lst_str, isi_lst_tuple, isi_lst_list, isi_lst_dict, isi_dic_int, isi_dic_bool, isi_dic_str, isi_dic_tuple, isi_dic_list, isi_dic_dict, gcAll, gcAny, goMod, goFdiv, decide_eq_true_eq, Bool.not_eq_true', decide_eq_false_iff_not, ite_not, Bool.and_eq_true, not_false_eq_true, Bool.not_eq_true, List.map_append, Int.zero_add, List.any_cons, List.any_nil, Bool.true_and, Bool.or_false, Bool.xor_false, Bool.false_xor, Bool.true_xor, Bool.not_not, forall_const, Int.toNat_natCast, List.length_map, List.length_append, and_self, ne_eq, List.map_eq_nil_iff, not_true_eq_false, eq_self, goMulI, goSub, goPow, goLe, goGt, goGe, guNeg, gcAbs, goEq_str, goNe_str, goEq_tup, goNe_tup, goEq_lst, goNe_lst, goEq_non, goNe_non, gAndV_k, gOrV_k, gCh_k, blK_bl, ite_bf, reduceCtorEq, Int.reducePow, Int.reduceLT, Int.reduceLE, Int.reduceNeg, sz0, se0, sz1, se1, sz2, se2, sz3, se3, sz4, se4, sz5, se5, sz6, se6, sz7, se7, sz8, se8, sz9, se9, gFld, fldK_ref, gPutF, gPutFM, putFK_ref, gDrf, drfK_ref, gMApp, mlK_ref, gMPop, popK_int, gMIns, ins2K_2, insK_int, gMeth, mthK_ref, gMake, giR3, gFlR1, gFlR2, rg2K_int, gLenSet, lenSetK_lst, lenSetK_tup, gMinD, minDK_lst, giMem, giBA, gMIdx, goTab, gFsort, sortK_lst, sortK_tup])
local macro_rules | `(tactic| wp_walk using $ts,*) => `(tactic| simp only [$[$ts:term],*, gSeq, gSet, gRet, gRetN, gNext, gIfS, gDrop, gOwn, gApp, gExt, gForM, gLcM, gCnt, gTryV, gTryE, gxP, gxM, DL.Fr.mute, gIPut, gFrz, frz, gAsg, gPar, gPar3, gAug, gRaise, gRetM, gSetM, gMPut, gMGet, g1, g2, gC, gV, gVw, gB, gAnd, gOr, gNot, gNotV, gIf, DL.gCons, DL.gNil, DL.gTup, DL.gLst, gFl, gFd, gCa, gLenS, gPart, gNoP, gDisp, gPcons, gPnil, gtN, gtTup, gtCons, gtNil, gYes, gFor, gLc, giS, gCallP, gCallM, gScr, entry, aSls, aSl, DL.Fr.set, OM.d, wipeF, wipeS, keyD, List.length_cons, List.length_nil, List.cons_append, List.nil_append, List.append_nil, List.replicate_succ, List.replicate_zero, List.getElem?_cons_zero, List.getElem?_cons_succ, List.getElem?_nil, List.set_cons_zero, List.set_cons_succ, Nat.reduceAdd, Nat.reduceSub, if_true, if_false, ite_true, ite_false, reduceIte, Bool.false_eq_true, Bool.not_true, Bool.not_false, List.all_cons, List.all_nil, Bool.and_true, true_and, and_true, List.map_cons, List.map_nil, gIdx, ixT_ints, intsOf_map, Int.reduceToNat, Option.some.injEq, exists_eq_left', goAdd_int, goAdd_str, goAdd_tup, goAdd_lst, goAddW_int, goAddW_lst, goPlus_int, goI_int, guI_int, gcI1_int, goIx_lst, gcLen_lst, gcTupleS_lst, gcList_lst, goRevA_lst, goIx_tup, gcLen_tup, gcTupleS_tup, gcList_tup, goRevA_tup, gcTuple_lst, goIx_str, gcLen_str, gcInt_int, gcInt_bl, goMulT_tup, goMulL_lst, goIsB_bl, goIsN_non, isN_int, isN_bl, isN_str, isN_tup, isN_lst, isN_dic, isN_ref, isN_ty, isN_non, gTru_k, truK_non, truK_bl, truK_int, truK_lst, truK_tup, truK_str, gFlist_k, lstK_lst, lstK_tup, gsSl_k, slK_lst, slK_tup, slK_str, itsD_k, itsK_lst, itsK_tup, giZip_k, zipK_lst, zipK_tup, giR1_k, ran1K_nat, ran1K_int, giR2_k, ran2K_int, goLtA_int, goLtA_tup, ok_non, eqv_bl, goEq_int, goNe_int, goEq_bl, goNe_bl, gcMin_ints, gcMinT_ints, gcMax_ints, gcMaxT_ints, intsOf_mapf, blsOf_mapf, gcMin_f, gcMax_f, gcMin_2, gcMax_2, gcSum_ints, gcSum_f, gcBls_f, all_mapid, any_mapid, at_0, at_1, at_2, at_3, at_last, noOwn_nil, noOwn_1, noOwn_2, nof_n, nof_v, nof_b, nof_s, zipD_map, enumD_map, isi_non_int, isi_non_bool, isi_non_str, isi_non_tuple, isi_non_list, isi_non_dict, isi_bl_int, isi_bl_bool, isi_bl_str, isi_bl_tuple, isi_bl_list, isi_bl_dict, isi_int_int, isi_int_bool, isi_int_str, isi_int_tuple, isi_int_list, isi_int_dict, isi_str_int, isi_str_bool, isi_str_str, isi_str_tuple, isi_str_list, isi_str_dict, isi_tup_int, isi_tup_bool, isi_tup_str, isi_tup_tuple, isi_tup_list, isi_tup_dict, isi_lst_int, isi_lst_bool, isi_lst_str, isi_lst_tuple, isi_lst_list, isi_lst_dict, isi_dic_int, isi_dic_bool, isi_dic_str, isi_dic_tuple, isi_dic_list, isi_dic_dict, gcAll, gcAny, goMod, goFdiv, decide_eq_true_eq, Bool.not_eq_true', decide_eq_false_iff_not, ite_not, Bool.and_eq_true, not_false_eq_true, Bool.not_eq_true, List.map_append, Int.zero_add, List.any_cons, List.any_nil, Bool.true_and, Bool.or_false, Bool.xor_false, Bool.false_xor, Bool.true_xor, Bool.not_not, forall_const, Int.toNat_natCast, List.length_map, List.length_append, and_self, ne_eq, List.map_eq_nil_iff, not_true_eq_false, eq_self, goMulI, goSub, goPow, goLe, goGt, goGe, guNeg, gcAbs, goEq_str, goNe_str, goEq_tup, goNe_tup, goEq_lst, goNe_lst, goEq_non, goNe_non, gAndV_k, gOrV_k, gCh_k, blK_bl, ite_bf, reduceCtorEq, Int.reducePow, Int.reduceLT, Int.reduceLE, Int.reduceNeg, sz0, se0, sz1, se1, sz2, se2, sz3, se3, sz4, se4, sz5, se5, sz6, se6, sz7, se7, sz8, se8, sz9, se9, gFld, fldK_ref, gPutF, gPutFM, putFK_ref, gDrf, drfK_ref, gMApp, mlK_ref, gMPop, popK_int, gMIns, ins2K_2, insK_int, gMeth, mthK_ref, gMake, giR3, gFlR1, gFlR2, rg2K_int, gLenSet, lenSetK_lst, lenSetK_tup, gMinD, minDK_lst, giMem, giBA, gMIdx, goTab, gFsort, sortK_lst, sortK_tup])
variable {K : PySem.W.Frag}
end LW
namespace LW
open PySem PySem.Spec PySem.W PyProof.Rows L2 DL
local macro_rules | `(tactic| wp_walk) => `(tactic| simp only [gSeq, gSet, gRet, gRetN, gNext, gIfS, gDrop, gOwn, gApp, gExt, gForM, gLcM, gCnt, gTryV, gTryE, gxP, gxM, DL.Fr.mute, gIPut, gFrz, frz, gAsg, gPar, gPar3, gAug, gRaise, gRetM, gSetM, gMPut, gMGet, g1, g2, gC, gV, gVw, gB, gAnd, gOr, gNot, gNotV, gIf, DL.gCons, DL.gNil, DL.gTup, DL.gLst, gFl, gFd, gCa, gLenS, gPart, gNoP, gDisp, gPcons, gPnil, gtN, gtTup, gtCons, gtNil, gYes, gFor, gLc, giS, gCallP, gCallM, gScr, entry, aSls, aSl, DL.Fr.set, OM.d, wipeF, wipeS, keyD, List.length_cons, List.length_nil, List.cons_append, List.nil_append, List.append_nil, List.replicate_succ, List.replicate_zero, List.getElem?_cons_zero, List.getElem?_cons_succ, List.getElem?_nil, List.set_cons_zero, List.set_cons_succ, Nat.reduceAdd, Nat.reduceSub, if_true, if_false, ite_true, ite_false, reduceIte, Bool.false_eq_true, Bool.not_true, Bool.not_false, List.all_cons, List.all_nil, Bool.and_true, true_and, and_true, List.map_cons, List.map_nil, gIdx, ixT_ints, intsOf_map, Int.reduceToNat, Option.some.injEq, exists_eq_left', goAdd_int, goAdd_str, goAdd_tup, goAdd_lst, goAddW_int, goAddW_lst, goPlus_int, goI_int, guI_int, gcI1_int, goIx_lst, gcLen_lst, gcTupleS_lst, gcList_lst, goRevA_lst, goIx_tup, gcLen_tup, gcTupleS_tup, gcList_tup, goRevA_tup, gcTuple_lst, goIx_str, gcLen_str, gcInt_int, gcInt_bl, goMulT_tup, goMulL_lst, goIsB_bl, goIsN_non, isN_int, isN_bl, isN_str, isN_tup, isN_lst, isN_dic, isN_ref, isN_ty, isN_non, gTru_k, truK_non, truK_bl, truK_int, truK_lst, truK_tup, truK_str, gFlist_k, lstK_lst, lstK_tup, gsSl_k, slK_lst, slK_tup, slK_str, itsD_k, itsK_lst, itsK_tup, giZip_k, zipK_lst, zipK_tup, giR1_k, ran1K_nat, ran1K_int, giR2_k, ran2K_int, goLtA_int, goLtA_tup, ok_non, eqv_bl, goEq_int, goNe_int, goEq_bl, goNe_bl, gcMin_ints, gcMinT_ints, gcMax_ints, gcMaxT_ints, intsOf_mapf, blsOf_mapf, gcMin_f, gcMax_f, gcMin_2, gcMax_2, gcSum_ints, gcSum_f, gcBls_f, all_mapid, any_mapid, at_0, at_1, at_2, at_3, at_last, noOwn_nil, noOwn_1, noOwn_2, nof_n, nof_v, nof_b, nof_s, zipD_map, enumD_map, isi_non_int, isi_non_bool, isi_non_str, isi_non_tuple, isi_non_list, isi_non_dict, isi_bl_int, isi_bl_bool, isi_bl_str, isi_bl_tuple, isi_bl_list, isi_bl_dict, isi_int_int, isi_int_bool, isi_int_str, isi_int_tuple, isi_int_list, isi_int_dict, isi_str_int, isi_str_bool, isi_str_str, isi_str_tuple, isi_str_list, isi_str_dict, isi_tup_int, isi_tup_bool, isi_tup_str, isi_tup_tuple, isi_tup_list, isi_tup_dict, isi_lst_int, isi_lst_bool, isi_lst_str, isi_lst_tuple, isi_lst_list, isi_lst_dict, isi_dic_int, isi_dic_bool, isi_dic_str, isi_dic_tuple, isi_dic_list, isi_dic_dict, gcAll, gcAny, goMod, goFdiv, decide_eq_true_eq, Bool.not_eq_true', decide_eq_false_iff_not, ite_not, Bool.and_eq_true, not_false_eq_true, Bool.not_eq_true, List.map_append, Int.zero_add, List.any_cons, List.any_nil, Bool.true_and, Bool.or_false, Bool.xor_false, Bool.false_xor, Bool.true_xor, Bool.not_not, forall_const, Int.toNat_natCast, List.length_map, List.length_append, and_self, ne_eq, List.map_eq_nil_iff, not_true_eq_false, eq_self, goMulI, goSub, goPow, goLe, goGt, goGe, guNeg, gcAbs, goEq_str, goNe_str, goEq_tup, goNe_tup, goEq_lst, goNe_lst, goEq_non, goNe_non, gAndV_k, gOrV_k, gCh_k, blK_bl, ite_bf, reduceCtorEq, Int.reducePow, Int.reduceLT, Int.reduceLE, Int.reduceNeg, sz0, se0, sz1, se1, sz2, se2, sz3, se3, sz4, se4, sz5, se5, sz6, se6, sz7, se7, sz8, se8, sz9, se9, gFld, fldK_ref, gPutF, gPutFM, putFK_ref, gDrf, drfK_ref, gMApp, mlK_ref, gMPop, popK_int, gMIns, ins2K_2, insK_int, gMeth, mthK_ref, gMake, giR3, gFlR1, gFlR2, rg2K_int, gLenSet, lenSetK_lst, lenSetK_tup, gMinD, minDK_lst, giMem, giBA, gMIdx, goTab, gFsort, sortK_lst, sortK_tup, gStep, stepK_lst, gAppM, gDictV, gFdict, dictK_lst, dictK_tup, dictK_dic, gDic0, gFdic0, gDGet1, gDGet2, dicK_dic, gOPut, gOPop, giKeys, gPconsI, gDispV, goIx_dic, gcLen_dic, lstK_dic, truK_dic, getK, dgetK, gOIns, ins2K_2, insK_int, gCallL, gAct, gxAct, gLamT, lamS, lam1, entryL, gxV, gItemsT, gFvals, giItems, gFsortD, sortDK_dic, kvD])
local macro_rules | `(tactic| wp_walk using $ts,*) => `(tactic| simp only [$[$ts:term],*, gSeq, gSet, gRet, gRetN, gNext, gIfS, gDrop, gOwn, gApp, gExt, gForM, gLcM, gCnt, gTryV, gTryE, gxP, gxM, DL.Fr.mute, gIPut, gFrz, frz, gAsg, gPar, gPar3, gAug, gRaise, gRetM, gSetM, gMPut, gMGet, g1, g2, gC, gV, gVw, gB, gAnd, gOr, gNot, gNotV, gIf, DL.gCons, DL.gNil, DL.gTup, DL.gLst, gFl, gFd, gCa, gLenS, gPart, gNoP, gDisp, gPcons, gPnil, gtN, gtTup, gtCons, gtNil, gYes, gFor, gLc, giS, gCallP, gCallM, gScr, entry, aSls, aSl, DL.Fr.set, OM.d, wipeF, wipeS, keyD, List.length_cons, List.length_nil, List.cons_append, List.nil_append, List.append_nil, List.replicate_succ, List.replicate_zero, List.getElem?_cons_zero, List.getElem?_cons_succ, List.getElem?_nil, List.set_cons_zero, List.set_cons_succ, Nat.reduceAdd, Nat.reduceSub, if_true, if_false, ite_true, ite_false, reduceIte, Bool.false_eq_true, Bool.not_true, Bool.not_false, List.all_cons, List.all_nil, Bool.and_true, true_and, and_true, List.map_cons, List.map_nil, gIdx, ixT_ints, intsOf_map, Int.reduceToNat, Option.some.injEq, exists_eq_left', goAdd_int, goAdd_str, goAdd_tup, goAdd_lst, goAddW_int, goAddW_lst, goPlus_int, goI_int, guI_int, gcI1_int, goIx_lst, gcLen_lst, gcTupleS_lst, gcList_lst, goRevA_lst, goIx_tup, gcLen_tup, gcTupleS_tup, gcList_tup, goRevA_tup, gcTuple_lst, goIx_str, gcLen_str, gcInt_int, gcInt_bl, goMulT_tup, goMulL_lst, goIsB_bl, goIsN_non, isN_int, isN_bl, isN_str, isN_tup, isN_lst, isN_dic, isN_ref, isN_ty, isN_non, gTru_k, truK_non, truK_bl, truK_int, truK_lst, truK_tup, truK_str, gFlist_k, lstK_lst, lstK_tup, gsSl_k, slK_lst, slK_tup, slK_str, itsD_k, itsK_lst, itsK_tup, giZip_k, zipK_lst, zipK_tup, giR1_k, ran1K_nat, ran1K_int, giR2_k, ran2K_int, goLtA_int, goLtA_tup, ok_non, eqv_bl, goEq_int, goNe_int, goEq_bl, goNe_bl, gcMin_ints, gcMinT_ints, gcMax_ints, gcMaxT_ints, intsOf_mapf, blsOf_mapf, gcMin_f, gcMax_f, gcMin_2, gcMax_2, gcSum_ints, gcSum_f, gcBls_f, all_mapid, any_mapid, at_0, at_1, at_2, at_3, at_last, noOwn_nil, noOwn_1, noOwn_2, nof_n, nof_v, nof_b, nof_s, zipD_map, enumD_map, isi_non_int, isi_non_bool, isi_non_str, isi_non_tuple, isi_non_list, isi_non_dict, isi_bl_int, isi_bl_bool, isi_bl_str, isi_bl_tuple, isi_bl_list, isi_bl_dict, isi_int_int, isi_int_bool, isi_int_str, isi_int_tuple, isi_int_list, isi_int_dict, isi_str_int, isi_str_bool, isi_str_str, isi_str_tuple, isi_str_list, isi_str_dict, isi_tup_int, isi_tup_bool, isi_tup_str, isi_tup_tuple, isi_tup_list, isi_tup_dict, isi_lst_int, isi_lst_bool, isi_lst_str, isi_lst_tuple, isi_lst_list, isi_lst_dict, isi_dic_int, isi_dic_bool, isi_dic_str, isi_dic_tuple, isi_dic_list, isi_dic_dict, gcAll, gcAny, goMod, goFdiv, decide_eq_true_eq, Bool.not_eq_true', decide_eq_false_iff_not, ite_not, Bool.and_eq_true, not_false_eq_true, Bool.not_eq_true, List.map_append, Int.zero_add, List.any_cons, List.any_nil, Bool.true_and, Bool.or_false, Bool.xor_false, Bool.false_xor, Bool.true_xor, Bool.not_not, forall_const, Int.toNat_natCast, List.length_map, List.length_append, and_self, ne_eq, List.map_eq_nil_iff, not_true_eq_false, eq_self, goMulI, goSub, goPow, goLe, goGt, goGe, guNeg, gcAbs, goEq_str, goNe_str, goEq_tup, goNe_tup, goEq_lst, goNe_lst, goEq_non, goNe_non, gAndV_k, gOrV_k, gCh_k, blK_bl, ite_bf, reduceCtorEq, Int.reducePow, Int.reduceLT, Int.reduceLE, Int.reduceNeg, sz0, se0, sz1, se1, sz2, se2, sz3, se3, sz4, se4, sz5, se5, sz6, se6, sz7, se7, sz8, se8, sz9, se9, gFld, fldK_ref, gPutF, gPutFM, putFK_ref, gDrf, drfK_ref, gMApp, mlK_ref, gMPop, popK_int, gMIns, ins2K_2, insK_int, gMeth, mthK_ref, gMake, giR3, gFlR1, gFlR2, rg2K_int, gLenSet, lenSetK_lst, lenSetK_tup, gMinD, minDK_lst, giMem, giBA, gMIdx, goTab, gFsort, sortK_lst, sortK_tup, gStep, stepK_lst, gAppM, gDictV, gFdict, dictK_lst, dictK_tup, dictK_dic, gDic0, gFdic0, gDGet1, gDGet2, dicK_dic, gOPut, gOPop, giKeys, gPconsI, gDispV, goIx_dic, gcLen_dic, lstK_dic, truK_dic, getK, dgetK, gOIns, ins2K_2, insK_int, gCallL, gAct, gxAct, gLamT, lamS, lam1, entryL, gxV, gItemsT, gFvals, giItems, gFsortD, sortDK_dic, kvD])
variable {K : PySem.W.Frag}
end LW
namespace LW
open PySem PySem.Spec PySem.W PyProof.Rows L2 DL
local macro_rules | `(tactic| wp_walk) => `(tactic| simp only [e_gSeq, e_gSet, e_gRet, e_gRetN, e_gNext, e_gIfS, e_gDrop, e_gOwn, e_gApp, e_gExt, e_gForM, e_gLcM, e_gCnt, e_gTryV, e_gTryE, e_gxP, e_gxM, DL.Fr.mute, e_gIPut, e_gFrz, frz, e_gAsg, e_gPar, e_gPar3, e_gAug, e_gRaise, e_gRetM, e_gSetM, e_gMPut, e_gMGet, e_g1, e_g2, e_gC, e_gV, e_gVw, e_gB, e_gAnd, e_gOr, e_gNot, e_gNotV, e_gIf, e_DL_gCons, e_DL_gNil, e_DL_gTup, e_DL_gLst, e_gFl, e_gFd, e_gCa, e_gLenS, e_gPart, e_gNoP, e_gDisp, e_gPcons, e_gPnil, e_gtN, e_gtTup, e_gtCons, e_gtNil, e_gYes, e_gFor, e_gLc, e_giS, e_gCallP, e_gCallM, e_gScr, entry, aSls, aSl, DL.Fr.set, OM.d, wipeF, wipeS, keyD, List.length_cons, List.length_nil, List.cons_append, List.nil_append, List.append_nil, List.replicate_succ, List.replicate_zero, List.getElem?_cons_zero, List.getElem?_cons_succ, List.getElem?_nil, List.set_cons_zero, List.set_cons_succ, Nat.reduceAdd, Nat.reduceSub, if_true, if_false, ite_true, ite_false, reduceIte, Bool.false_eq_true, Bool.not_true, Bool.not_false, List.all_cons, List.all_nil, Bool.and_true, true_and, and_true, List.map_cons, List.map_nil, e_gIdx, ixT_ints, intsOf_map, Int.reduceToNat, Option.some.injEq, exists_eq_left', e_goAdd_int, e_goAdd_str, e_goAdd_tup, e_goAdd_lst, e_goAddW_int, e_goAddW_lst, e_goPlus_int, e_goI_int, e_guI_int, e_gcI1_int, e_goIx_lst, e_gcLen_lst, e_gcTupleS_lst, e_gcList_lst, e_goRevA_lst, e_goIx_tup, e_gcLen_tup, e_gcTupleS_tup, e_gcList_tup, e_goRevA_tup, e_gcTuple_lst, e_goIx_str, e_gcLen_str, e_gcInt_int, e_gcInt_bl, e_goMulT_tup, e_goMulL_lst, e_goIsB_bl, e_goIsN_non, isN_int, isN_bl, isN_str, isN_tup, isN_lst, isN_dic, isN_ref, isN_ty, isN_non, gTru_k, e_truK_non, e_truK_bl, e_truK_int, e_truK_lst, e_truK_tup, e_truK_str, gFlist_k, e_lstK_lst, e_lstK_tup, gsSl_k, e_slK_lst, slK_tup, e_slK_str, itsD_k, e_itsK_lst, e_itsK_tup, giZip_k, e_zipK_lst, e_zipK_tup, giR1_k, ran1K_nat, e_ran1K_int, giR2_k, e_ran2K_int, e_goLtA_int, goLtA_tup, ok_non, eqv_bl, e_goEq_int, e_goNe_int, e_goEq_bl, e_goNe_bl, gcMin_ints, gcMinT_ints, gcMax_ints, gcMaxT_ints, intsOf_mapf, blsOf_mapf, gcMin_f, gcMax_f, gcMin_2, gcMax_2, gcSum_ints, gcSum_f, gcBls_f, all_mapid, any_mapid, at_0, at_1, at_2, at_3, at_last, noOwn_nil, noOwn_1, noOwn_2, nof_n, nof_v, nof_b, nof_s, zipD_map, enumD_map, isi_non_int, isi_non_bool, isi_non_str, isi_non_tuple, isi_non_list, isi_non_dict, isi_bl_int, isi_bl_bool, isi_bl_str, isi_bl_tuple, isi_bl_list, isi_bl_dict, isi_int_int, isi_int_bool, isi_int_str, isi_int_tuple, isi_int_list, isi_int_dict, isi_str_int, isi_str_bool, isi_str_str, isi_str_tuple, isi_str_list, isi_str_dict, isi_tup_int, isi_tup_bool, isi_tup_str, isi_tup_tuple, isi_tup_list, isi_tup_dict, isi_lst_int, isi_lst_bool, isi_lst_str, isi_lst_tuple, isi_lst_list, isi_lst_dict, isi_dic_int, isi_dic_bool, isi_dic_str, isi_dic_tuple, isi_dic_list, isi_dic_dict, gcAll, gcAny, goMod, goFdiv, decide_eq_true_eq, Bool.not_eq_true', decide_eq_false_iff_not, ite_not, Bool.and_eq_true, not_false_eq_true, Bool.not_eq_true, List.map_append, Int.zero_add, List.any_cons, List.any_nil, Bool.true_and, Bool.or_false, Bool.xor_false, Bool.false_xor, Bool.true_xor, Bool.not_not, forall_const, Int.toNat_natCast, List.length_map, List.length_append, and_self, ne_eq, List.map_eq_nil_iff, not_true_eq_false, eq_self, goMulI, goSub, goPow, goLe, goGt, goGe, guNeg, gcAbs, e_goEq_str, e_goNe_str, e_goEq_tup, e_goNe_tup, e_goEq_lst, e_goNe_lst, e_goEq_non, e_goNe_non, e_gAndV_k, e_gOrV_k, e_gCh_k, blK_bl, ite_bf, reduceCtorEq, Int.reducePow, Int.reduceLT, Int.reduceLE, Int.reduceNeg, sz0, se0, sz1, se1, sz2, se2, sz3, se3, sz4, se4, sz5, se5, sz6, se6, sz7, se7, sz8, se8, sz9, se9, e_gFld, e_fldK_ref, e_gPutF, e_gPutFM, e_putFK_ref, e_gDrf, e_drfK_ref, e_gMApp, e_mlK_ref, e_gMPop, e_popK_int, e_gMIns, ins2K_2, insK_int, e_gMeth, e_mthK_ref, e_gMake, e_giR3, e_gFlR1, e_gFlR2, e_rg2K_int, e_gLenSet, lenSetK_lst, lenSetK_tup, e_gMinD, minDK_lst, e_giMem, e_giBA, e_gMIdx, e_goTab, e_gFsort, sortK_lst, sortK_tup, e_gStep, e_stepK_lst, e_gAppM, e_gDictV, e_gFdict, e_dictK_lst, e_dictK_tup, e_dictK_dic, e_gDic0, e_gFdic0, e_gDGet1, e_gDGet2, e_dicK_dic, e_gOPut, e_gOPop, e_giKeys, e_gPconsI, e_gDispV, e_goIx_dic, e_gcLen_dic, e_lstK_dic, e_truK_dic, getK, dgetK, e_gOIns, ins2K_2, insK_int, e_gCallL, e_gAct, e_gxAct, gLamT, lamS, lam1, entryL, e_gxV, e_gItemsT, e_gFvals, e_giItems, e_gFsortD, e_sortDK_dic, kvD])
local macro_rules | `(tactic| wp_walk using $ts,*) => `(tactic| simp only [$[$ts:term],*, e_gSeq, e_gSet, e_gRet, e_gRetN, e_gNext, e_gIfS, e_gDrop, e_gOwn, e_gApp, e_gExt, e_gForM, e_gLcM, e_gCnt, e_gTryV, e_gTryE, e_gxP, e_gxM, DL.Fr.mute, e_gIPut, e_gFrz, frz, e_gAsg, e_gPar, e_gPar3, e_gAug, e_gRaise, e_gRetM, e_gSetM, e_gMPut, e_gMGet, e_g1, e_g2, e_gC, e_gV, e_gVw, e_gB, e_gAnd, e_gOr, e_gNot, e_gNotV, e_gIf, e_DL_gCons, e_DL_gNil, e_DL_gTup, e_DL_gLst, e_gFl, e_gFd, e_gCa, e_gLenS, e_gPart, e_gNoP, e_gDisp, e_gPcons, e_gPnil, e_gtN, e_gtTup, e_gtCons, e_gtNil, e_gYes, e_gFor, e_gLc, e_giS, e_gCallP, e_gCallM, e_gScr, entry, aSls, aSl, DL.Fr.set, OM.d, wipeF, wipeS, keyD, List.length_cons, List.length_nil, List.cons_append, List.nil_append, List.append_nil, List.replicate_succ, List.replicate_zero, List.getElem?_cons_zero, List.getElem?_cons_succ, List.getElem?_nil, List.set_cons_zero, List.set_cons_succ, Nat.reduceAdd, Nat.reduceSub, if_true, if_false, ite_true, ite_false, reduceIte, Bool.false_eq_true, Bool.not_true, Bool.not_false, List.all_cons, List.all_nil, Bool.and_true, true_and, and_true, List.map_cons, List.map_nil, e_gIdx, ixT_ints, intsOf_map, Int.reduceToNat, Option.some.injEq, exists_eq_left', e_goAdd_int, e_goAdd_str, e_goAdd_tup, e_goAdd_lst, e_goAddW_int, e_goAddW_lst, e_goPlus_int, e_goI_int, e_guI_int, e_gcI1_int, e_goIx_lst, e_gcLen_lst, e_gcTupleS_lst, e_gcList_lst, e_goRevA_lst, e_goIx_tup, e_gcLen_tup, e_gcTupleS_tup, e_gcList_tup, e_goRevA_tup, e_gcTuple_lst, e_goIx_str, e_gcLen_str, e_gcInt_int, e_gcInt_bl, e_goMulT_tup, e_goMulL_lst, e_goIsB_bl, e_goIsN_non, isN_int, isN_bl, isN_str, isN_tup, isN_lst, isN_dic, isN_ref, isN_ty, isN_non, gTru_k, e_truK_non, e_truK_bl, e_truK_int, e_truK_lst, e_truK_tup, e_truK_str, gFlist_k, e_lstK_lst, e_lstK_tup, gsSl_k, e_slK_lst, slK_tup, e_slK_str, itsD_k, e_itsK_lst, e_itsK_tup, giZip_k, e_zipK_lst, e_zipK_tup, giR1_k, ran1K_nat, e_ran1K_int, giR2_k, e_ran2K_int, e_goLtA_int, goLtA_tup, ok_non, eqv_bl, e_goEq_int, e_goNe_int, e_goEq_bl, e_goNe_bl, gcMin_ints, gcMinT_ints, gcMax_ints, gcMaxT_ints, intsOf_mapf, blsOf_mapf, gcMin_f, gcMax_f, gcMin_2, gcMax_2, gcSum_ints, gcSum_f, gcBls_f, all_mapid, any_mapid, at_0, at_1, at_2, at_3, at_last, noOwn_nil, noOwn_1, noOwn_2, nof_n, nof_v, nof_b, nof_s, zipD_map, enumD_map, isi_non_int, isi_non_bool, isi_non_str, isi_non_tuple, isi_non_list, isi_non_dict, isi_bl_int, isi_bl_bool, isi_bl_str, isi_bl_tuple, isi_bl_list, isi_bl_dict, isi_int_int, isi_int_bool, isi_int_str, isi_int_tuple, isi_int_list, isi_int_dict, isi_str_int, isi_str_bool, isi_str_str, isi_str_tuple, isi_str_list, isi_str_dict, isi_tup_int, isi_tup_bool, isi_tup_str, isi_tup_tuple, isi_tup_list, isi_tup_dict, isi_lst_int, isi_lst_bool, isi_lst_str, isi_lst_tuple, isi_lst_list, isi_lst_dict, isi_dic_int, isi_dic_bool, isi_dic_str, isi_dic_tuple, isi_dic_list, isi_dic_dict, gcAll, gcAny, goMod, goFdiv, decide_eq_true_eq, Bool.not_eq_true', decide_eq_false_iff_not, ite_not, Bool.and_eq_true, not_false_eq_true, Bool.not_eq_true, List.map_append, Int.zero_add, List.any_cons, List.any_nil, Bool.true_and, Bool.or_false, Bool.xor_false, Bool.false_xor, Bool.true_xor, Bool.not_not, forall_const, Int.toNat_natCast, List.length_map, List.length_append, and_self, ne_eq, List.map_eq_nil_iff, not_true_eq_false, eq_self, goMulI, goSub, goPow, goLe, goGt, goGe, guNeg, gcAbs, e_goEq_str, e_goNe_str, e_goEq_tup, e_goNe_tup, e_goEq_lst, e_goNe_lst, e_goEq_non, e_goNe_non, e_gAndV_k, e_gOrV_k, e_gCh_k, blK_bl, ite_bf, reduceCtorEq, Int.reducePow, Int.reduceLT, Int.reduceLE, Int.reduceNeg, sz0, se0, sz1, se1, sz2, se2, sz3, se3, sz4, se4, sz5, se5, sz6, se6, sz7, se7, sz8, se8, sz9, se9, e_gFld, e_fldK_ref, e_gPutF, e_gPutFM, e_putFK_ref, e_gDrf, e_drfK_ref, e_gMApp, e_mlK_ref, e_gMPop, e_popK_int, e_gMIns, ins2K_2, insK_int, e_gMeth, e_mthK_ref, e_gMake, e_giR3, e_gFlR1, e_gFlR2, e_rg2K_int, e_gLenSet, lenSetK_lst, lenSetK_tup, e_gMinD, minDK_lst, e_giMem, e_giBA, e_gMIdx, e_goTab, e_gFsort, sortK_lst, sortK_tup, e_gStep, e_stepK_lst, e_gAppM, e_gDictV, e_gFdict, e_dictK_lst, e_dictK_tup, e_dictK_dic, e_gDic0, e_gFdic0, e_gDGet1, e_gDGet2, e_dicK_dic, e_gOPut, e_gOPop, e_giKeys, e_gPconsI, e_gDispV, e_goIx_dic, e_gcLen_dic, e_lstK_dic, e_truK_dic, getK, dgetK, e_gOIns, ins2K_2, insK_int, e_gCallL, e_gAct, e_gxAct, gLamT, lamS, lam1, entryL, e_gxV, e_gItemsT, e_gFvals, e_giItems, e_gFsortD, e_sortDK_dic, kvD])
variable {K : PySem.W.Frag}
section
variable {a : Addr} {xs : List D} {at_ w : Int} {M : Mem} {Q : D → Mem → Prop} {X : Addr → Mem → Prop}
structure Sp1 (a : Addr) (xs : List D) (M : Mem) (Q : D → Mem → Prop) : Prop where
  ms : M a = some .st
  hl : xs.length ≤ 50
  hx : ∀ d ∈ xs, (∃ x : Int, d = .int x) ∨ ∃ p, d = pI p
  q : ∀ d : D, d.da = true → Q d M
theorem Sp1.da (h : Sp1 a xs M Q) : D.daL xs = true := D.daL_of fun d hd => by
  rcases h.hx d hd with ⟨x, rfl⟩ | ⟨p, rfl⟩ <;> rfl
theorem Sp1.fin (h : Sp1 a xs M Q) {ys : List D} (hy : D.daL ys = true) : Q (.tup ys) M := h.q _ (by rw [D.da_tup]; exact hy)
end
end LW
namespace LW
open PySem PySem.Spec PySem.W PyProof.Rows L2 DL
local macro_rules | `(tactic| wp_walk) => `(tactic| simp only [gSeq, gSet, gRet, gRetN, gNext, gIfS, gDrop, gOwn, gApp, gExt, gForM, gLcM, gCnt, gTryV, gTryE, gxP, gxM, DL.Fr.mute, gIPut, gFrz, frz, gAsg, gPar, gPar3, gAug, gRaise, gRetM, gSetM, gMPut, gMGet, g1, g2, gC, gV, gVw, gB, gAnd, gOr, gNot, gNotV, gIf, DL.gCons, DL.gNil, DL.gTup, DL.gLst, gFl, gFd, gCa, gLenS, gPart, gNoP, gDisp, gPcons, gPnil, gtN, gtTup, gtCons, gtNil, gYes, gFor, gLc, giS, gCallP, gCallM, gScr, entry, aSls, aSl, DL.Fr.set, OM.d, wipeF, wipeS, keyD, List.length_cons, List.length_nil, List.cons_append, List.nil_append, List.append_nil, List.replicate_succ, List.replicate_zero, List.getElem?_cons_zero, List.getElem?_cons_succ, List.getElem?_nil, List.set_cons_zero, List.set_cons_succ, Nat.reduceAdd, Nat.reduceSub, if_true, if_false, ite_true, ite_false, reduceIte, Bool.false_eq_true, Bool.not_true, Bool.not_false, List.all_cons, List.all_nil, Bool.and_true, true_and, and_true, List.map_cons, List.map_nil, gIdx, ixT_ints, intsOf_map, Int.reduceToNat, Option.some.injEq, exists_eq_left', goAdd_int, goAdd_str, goAdd_tup, goAdd_lst, goAddW_int, goAddW_lst, goPlus_int, goI_int, guI_int, gcI1_int, goIx_lst, gcLen_lst, gcTupleS_lst, gcList_lst, goRevA_lst, goIx_tup, gcLen_tup, gcTupleS_tup, gcList_tup, goRevA_tup, gcTuple_lst, goIx_str, gcLen_str, gcInt_int, gcInt_bl, goMulT_tup, goMulL_lst, goIsB_bl, goIsN_non, isN_int, isN_bl, isN_str, isN_tup, isN_lst, isN_dic, isN_ref, isN_ty, isN_non, gTru_k, truK_non, truK_bl, truK_int, truK_lst, truK_tup, truK_str, gFlist_k, lstK_lst, lstK_tup, gsSl_k, slK_lst, slK_tup, slK_str, itsD_k, itsK_lst, itsK_tup, giZip_k, zipK_lst, zipK_tup, giR1_k, ran1K_nat, ran1K_int, giR2_k, ran2K_int, goLtA_int, goLtA_tup, ok_non, eqv_bl, goEq_int, goNe_int, goEq_bl, goNe_bl, gcMin_ints, gcMinT_ints, gcMax_ints, gcMaxT_ints, intsOf_mapf, blsOf_mapf, gcMin_f, gcMax_f, gcMin_2, gcMax_2, gcSum_ints, gcSum_f, gcBls_f, all_mapid, any_mapid, at_0, at_1, at_2, at_3, at_last, noOwn_nil, noOwn_1, noOwn_2, nof_n, nof_v, nof_b, nof_s, zipD_map, enumD_map, isi_non_int, isi_non_bool, isi_non_str, isi_non_tuple, isi_non_list, isi_non_dict, isi_bl_int, isi_bl_bool, isi_bl_str, isi_bl_tuple, isi_bl_list, isi_bl_dict, isi_int_int, isi_int_bool, isi_int_str, isi_int_tuple, isi_int_list, isi_int_dict, isi_str_int, isi_str_bool, isi_str_str, isi_str_tuple, isi_str_list, isi_str_dict, isi_tup_int, isi_tup_bool, isi_tup_str, isi_tup_tuple, isi_tup_list, isi_tup_dict, isi_lst_int, isi_lst_bool, isi_lst_str, isi_lst_tuple, isi_lst_list, isi_lst_dict, isi_dic_int, isi_dic_bool, isi_dic_str, isi_dic_tuple, isi_dic_list, isi_dic_dict, gcAll, gcAny, goMod, goFdiv, decide_eq_true_eq, Bool.not_eq_true', decide_eq_false_iff_not, ite_not, Bool.and_eq_true, not_false_eq_true, Bool.not_eq_true, List.map_append, Int.zero_add, List.any_cons, List.any_nil, Bool.true_and, Bool.or_false, Bool.xor_false, Bool.false_xor, Bool.true_xor, Bool.not_not, forall_const, Int.toNat_natCast, List.length_map, List.length_append, and_self, ne_eq, List.map_eq_nil_iff, not_true_eq_false, eq_self, goMulI, goSub, goPow, goLe, goGt, goGe, guNeg, gcAbs, goEq_str, goNe_str, goEq_tup, goNe_tup, goEq_lst, goNe_lst, goEq_non, goNe_non, gAndV_k, gOrV_k, gCh_k, blK_bl, ite_bf, reduceCtorEq, Int.reducePow, Int.reduceLT, Int.reduceLE, Int.reduceNeg, sz0, se0, sz1, se1, sz2, se2, sz3, se3, sz4, se4, sz5, se5, sz6, se6, sz7, se7, sz8, se8, sz9, se9, gFld, fldK_ref, gPutF, gPutFM, putFK_ref, gDrf, drfK_ref, gMApp, mlK_ref, gMPop, popK_int, gMIns, ins2K_2, insK_int, gMeth, mthK_ref, gMake, giR3, gFlR1, gFlR2, rg2K_int, gLenSet, lenSetK_lst, lenSetK_tup, gMinD, minDK_lst, giMem, giBA, gMIdx, goTab, gFsort, sortK_lst, sortK_tup])
local macro_rules | `(tactic| wp_walk using $ts,*) => `(tactic| simp only [$[$ts:term],*, gSeq, gSet, gRet, gRetN, gNext, gIfS, gDrop, gOwn, gApp, gExt, gForM, gLcM, gCnt, gTryV, gTryE, gxP, gxM, DL.Fr.mute, gIPut, gFrz, frz, gAsg, gPar, gPar3, gAug, gRaise, gRetM, gSetM, gMPut, gMGet, g1, g2, gC, gV, gVw, gB, gAnd, gOr, gNot, gNotV, gIf, DL.gCons, DL.gNil, DL.gTup, DL.gLst, gFl, gFd, gCa, gLenS, gPart, gNoP, gDisp, gPcons, gPnil, gtN, gtTup, gtCons, gtNil, gYes, gFor, gLc, giS, gCallP, gCallM, gScr, entry, aSls, aSl, DL.Fr.set, OM.d, wipeF, wipeS, keyD, List.length_cons, List.length_nil, List.cons_append, List.nil_append, List.append_nil, List.replicate_succ, List.replicate_zero, List.getElem?_cons_zero, List.getElem?_cons_succ, List.getElem?_nil, List.set_cons_zero, List.set_cons_succ, Nat.reduceAdd, Nat.reduceSub, if_true, if_false, ite_true, ite_false, reduceIte, Bool.false_eq_true, Bool.not_true, Bool.not_false, List.all_cons, List.all_nil, Bool.and_true, true_and, and_true, List.map_cons, List.map_nil, gIdx, ixT_ints, intsOf_map, Int.reduceToNat, Option.some.injEq, exists_eq_left', goAdd_int, goAdd_str, goAdd_tup, goAdd_lst, goAddW_int, goAddW_lst, goPlus_int, goI_int, guI_int, gcI1_int, goIx_lst, gcLen_lst, gcTupleS_lst, gcList_lst, goRevA_lst, goIx_tup, gcLen_tup, gcTupleS_tup, gcList_tup, goRevA_tup, gcTuple_lst, goIx_str, gcLen_str, gcInt_int, gcInt_bl, goMulT_tup, goMulL_lst, goIsB_bl, goIsN_non, isN_int, isN_bl, isN_str, isN_tup, isN_lst, isN_dic, isN_ref, isN_ty, isN_non, gTru_k, truK_non, truK_bl, truK_int, truK_lst, truK_tup, truK_str, gFlist_k, lstK_lst, lstK_tup, gsSl_k, slK_lst, slK_tup, slK_str, itsD_k, itsK_lst, itsK_tup, giZip_k, zipK_lst, zipK_tup, giR1_k, ran1K_nat, ran1K_int, giR2_k, ran2K_int, goLtA_int, goLtA_tup, ok_non, eqv_bl, goEq_int, goNe_int, goEq_bl, goNe_bl, gcMin_ints, gcMinT_ints, gcMax_ints, gcMaxT_ints, intsOf_mapf, blsOf_mapf, gcMin_f, gcMax_f, gcMin_2, gcMax_2, gcSum_ints, gcSum_f, gcBls_f, all_mapid, any_mapid, at_0, at_1, at_2, at_3, at_last, noOwn_nil, noOwn_1, noOwn_2, nof_n, nof_v, nof_b, nof_s, zipD_map, enumD_map, isi_non_int, isi_non_bool, isi_non_str, isi_non_tuple, isi_non_list, isi_non_dict, isi_bl_int, isi_bl_bool, isi_bl_str, isi_bl_tuple, isi_bl_list, isi_bl_dict, isi_int_int, isi_int_bool, isi_int_str, isi_int_tuple, isi_int_list, isi_int_dict, isi_str_int, isi_str_bool, isi_str_str, isi_str_tuple, isi_str_list, isi_str_dict, isi_tup_int, isi_tup_bool, isi_tup_str, isi_tup_tuple, isi_tup_list, isi_tup_dict, isi_lst_int, isi_lst_bool, isi_lst_str, isi_lst_tuple, isi_lst_list, isi_lst_dict, isi_dic_int, isi_dic_bool, isi_dic_str, isi_dic_tuple, isi_dic_list, isi_dic_dict, gcAll, gcAny, goMod, goFdiv, decide_eq_true_eq, Bool.not_eq_true', decide_eq_false_iff_not, ite_not, Bool.and_eq_true, not_false_eq_true, Bool.not_eq_true, List.map_append, Int.zero_add, List.any_cons, List.any_nil, Bool.true_and, Bool.or_false, Bool.xor_false, Bool.false_xor, Bool.true_xor, Bool.not_not, forall_const, Int.toNat_natCast, List.length_map, List.length_append, and_self, ne_eq, List.map_eq_nil_iff, not_true_eq_false, eq_self, goMulI, goSub, goPow, goLe, goGt, goGe, guNeg, gcAbs, goEq_str, goNe_str, goEq_tup, goNe_tup, goEq_lst, goNe_lst, goEq_non, goNe_non, gAndV_k, gOrV_k, gCh_k, blK_bl, ite_bf, reduceCtorEq, Int.reducePow, Int.reduceLT, Int.reduceLE, Int.reduceNeg, sz0, se0, sz1, se1, sz2, se2, sz3, se3, sz4, se4, sz5, se5, sz6, se6, sz7, se7, sz8, se8, sz9, se9, gFld, fldK_ref, gPutF, gPutFM, putFK_ref, gDrf, drfK_ref, gMApp, mlK_ref, gMPop, popK_int, gMIns, ins2K_2, insK_int, gMeth, mthK_ref, gMake, giR3, gFlR1, gFlR2, rg2K_int, gLenSet, lenSetK_lst, lenSetK_tup, gMinD, minDK_lst, giMem, giBA, gMIdx, goTab, gFsort, sortK_lst, sortK_tup])
theorem sok_app {a b : PySem.Str} (ha : PyData.strOk a = true) (hb : PyData.strOk b = true) : PyData.strOk (a ++ b) = true := by
  show (a ++ b).cps.all (· < 0x110000) = true
  rw [show (a ++ b).cps = a.cps ++ b.cps from rfl, Array.all_append]
  exact Bool.and_eq_true_iff.mpr ⟨ha, hb⟩
theorem sok_of (s : String) : PyData.strOk (PySem.Str.ofString s) = true := by
  rw [PySem.Str.ofString_eq_toList]
  show ((s.toList.map Char.toNat).toArray).all (· < 0x110000) = true
  rw [List.all_toArray, List.all_eq_true]
  intro n hn
  obtain ⟨c, _, rfl⟩ := List.mem_map.mp hn
  have h := c.valid
  have e : c.val.toNat = c.toNat := rfl
  unfold UInt32.isValidChar Nat.isValidChar at h
  rw [decide_eq_true_eq]
  omega
theorem sok_text : ∀ (ts : List PySem.Str) (k : Nat) (acc : PySem.Str), PyData.strOk acc = true → (∀ t ∈ ts, PyData.strOk t = true) → PyData.strOk (textFrom k acc ts) = true
  | [], _, _, h, _ => h
  | t :: ts, k, acc, h, ht => sok_text ts (k + 1) _ (sok_app (sok_app h (sok_of _)) (ht t (List.mem_cons_self ..))) fun x hx => ht x (List.mem_cons_of_mem _ hx)
theorem sok_list {ts : List PySem.Str} (h : ∀ t ∈ ts, PyData.strOk t = true) : PyData.strOk (listText ts) = true := sok_app (sok_text ts 0 _ (sok_of _) h) (sok_of _)
theorem sok_join : ∀ (ts : List PySem.Str), (∀ t ∈ ts, PyData.strOk t = true) → PyData.strOk (PySem.Str.join ", " ts) = true
  | [], _ => by decide +kernel
  | [x], h => h x (List.mem_cons_self ..)
  | x :: y :: r, h => sok_app (sok_app (h x (List.mem_cons_self ..)) (sok_of _)) (sok_join (y :: r) fun t ht => h t (List.mem_cons_of_mem _ ht))
theorem sok_tup {ts : List PySem.Str} (h : ∀ t ∈ ts, PyData.strOk t = true) : PyData.strOk (tupleText ts) = true := sok_app (sok_app (sok_of _) (sok_join ts h)) (sok_of _)
end LW
namespace LW
open PySem PySem.Spec PySem.W PyProof.Rows L2 DL
local macro_rules | `(tactic| wp_walk) => `(tactic| simp only [e_gSeq, e_gSet, e_gRet, e_gRetN, e_gNext, e_gIfS, e_gDrop, e_gOwn, e_gApp, e_gExt, e_gForM, e_gLcM, e_gCnt, e_gTryV, e_gTryE, e_gxP, e_gxM, DL.Fr.mute, e_gIPut, e_gFrz, frz, e_gAsg, e_gPar, e_gPar3, e_gAug, e_gRaise, e_gRetM, e_gSetM, e_gMPut, e_gMGet, e_g1, e_g2, e_gC, e_gV, e_gVw, e_gB, e_gAnd, e_gOr, e_gNot, e_gNotV, e_gIf, e_DL_gCons, e_DL_gNil, e_DL_gTup, e_DL_gLst, e_gFl, e_gFd, e_gCa, e_gLenS, e_gPart, e_gNoP, e_gDisp, e_gPcons, e_gPnil, e_gtN, e_gtTup, e_gtCons, e_gtNil, e_gYes, e_gFor, e_gLc, e_giS, e_gCallP, e_gCallM, e_gScr, entry, aSls, aSl, DL.Fr.set, OM.d, wipeF, wipeS, keyD, List.length_cons, List.length_nil, List.cons_append, List.nil_append, List.append_nil, List.replicate_succ, List.replicate_zero, List.getElem?_cons_zero, List.getElem?_cons_succ, List.getElem?_nil, List.set_cons_zero, List.set_cons_succ, Nat.reduceAdd, Nat.reduceSub, if_true, if_false, ite_true, ite_false, reduceIte, Bool.false_eq_true, Bool.not_true, Bool.not_false, List.all_cons, List.all_nil, Bool.and_true, true_and, and_true, List.map_cons, List.map_nil, e_gIdx, ixT_ints, intsOf_map, Int.reduceToNat, Option.some.injEq, exists_eq_left', e_goAdd_int, e_goAdd_str, e_goAdd_tup, e_goAdd_lst, e_goAddW_int, e_goAddW_lst, e_goPlus_int, e_goI_int, e_guI_int, e_gcI1_int, e_goIx_lst, e_gcLen_lst, e_gcTupleS_lst, e_gcList_lst, e_goRevA_lst, e_goIx_tup, e_gcLen_tup, e_gcTupleS_tup, e_gcList_tup, e_goRevA_tup, e_gcTuple_lst, e_goIx_str, e_gcLen_str, e_gcInt_int, e_gcInt_bl, e_goMulT_tup, e_goMulL_lst, e_goIsB_bl, e_goIsN_non, isN_int, isN_bl, isN_str, isN_tup, isN_lst, isN_dic, isN_ref, isN_ty, isN_non, gTru_k, e_truK_non, e_truK_bl, e_truK_int, e_truK_lst, e_truK_tup, e_truK_str, gFlist_k, e_lstK_lst, e_lstK_tup, gsSl_k, e_slK_lst, slK_tup, e_slK_str, itsD_k, e_itsK_lst, e_itsK_tup, giZip_k, e_zipK_lst, e_zipK_tup, giR1_k, ran1K_nat, e_ran1K_int, giR2_k, e_ran2K_int, e_goLtA_int, goLtA_tup, ok_non, eqv_bl, e_goEq_int, e_goNe_int, e_goEq_bl, e_goNe_bl, gcMin_ints, gcMinT_ints, gcMax_ints, gcMaxT_ints, intsOf_mapf, blsOf_mapf, gcMin_f, gcMax_f, gcMin_2, gcMax_2, gcSum_ints, gcSum_f, gcBls_f, all_mapid, any_mapid, at_0, at_1, at_2, at_3, at_last, noOwn_nil, noOwn_1, noOwn_2, nof_n, nof_v, nof_b, nof_s, zipD_map, enumD_map, isi_non_int, isi_non_bool, isi_non_str, isi_non_tuple, isi_non_list, isi_non_dict, isi_bl_int, isi_bl_bool, isi_bl_str, isi_bl_tuple, isi_bl_list, isi_bl_dict, isi_int_int, isi_int_bool, isi_int_str, isi_int_tuple, isi_int_list, isi_int_dict, isi_str_int, isi_str_bool, isi_str_str, isi_str_tuple, isi_str_list, isi_str_dict, isi_tup_int, isi_tup_bool, isi_tup_str, isi_tup_tuple, isi_tup_list, isi_tup_dict, isi_lst_int, isi_lst_bool, isi_lst_str, isi_lst_tuple, isi_lst_list, isi_lst_dict, isi_dic_int, isi_dic_bool, isi_dic_str, isi_dic_tuple, isi_dic_list, isi_dic_dict, gcAll, gcAny, goMod, goFdiv, decide_eq_true_eq, Bool.not_eq_true', decide_eq_false_iff_not, ite_not, Bool.and_eq_true, not_false_eq_true, Bool.not_eq_true, List.map_append, Int.zero_add, List.any_cons, List.any_nil, Bool.true_and, Bool.or_false, Bool.xor_false, Bool.false_xor, Bool.true_xor, Bool.not_not, forall_const, Int.toNat_natCast, List.length_map, List.length_append, and_self, ne_eq, List.map_eq_nil_iff, not_true_eq_false, eq_self, goMulI, goSub, goPow, goLe, goGt, goGe, guNeg, gcAbs, e_goEq_str, e_goNe_str, e_goEq_tup, e_goNe_tup, e_goEq_lst, e_goNe_lst, e_goEq_non, e_goNe_non, e_gAndV_k, e_gOrV_k, e_gCh_k, blK_bl, ite_bf, reduceCtorEq, Int.reducePow, Int.reduceLT, Int.reduceLE, Int.reduceNeg, sz0, se0, sz1, se1, sz2, se2, sz3, se3, sz4, se4, sz5, se5, sz6, se6, sz7, se7, sz8, se8, sz9, se9, e_gFld, e_fldK_ref, e_gPutF, e_gPutFM, e_putFK_ref, e_gDrf, e_drfK_ref, e_gMApp, e_mlK_ref, e_gMPop, e_popK_int, e_gMIns, ins2K_2, insK_int, e_gMeth, e_mthK_ref, e_gMake, e_giR3, e_gFlR1, e_gFlR2, e_rg2K_int, e_gLenSet, lenSetK_lst, lenSetK_tup, e_gMinD, minDK_lst, e_giMem, e_giBA, e_gMIdx, e_goTab, e_gFsort, sortK_lst, sortK_tup, e_gStep, e_stepK_lst, e_gAppM, e_gDictV, e_gFdict, e_dictK_lst, e_dictK_tup, e_dictK_dic, e_gDic0, e_gFdic0, e_gDGet1, e_gDGet2, e_dicK_dic, e_gOPut, e_gOPop, e_giKeys, e_gPconsI, e_gDispV, e_goIx_dic, e_gcLen_dic, e_lstK_dic, e_truK_dic, getK, dgetK, e_gOIns, ins2K_2, insK_int, e_gCallL, e_gAct, e_gxAct, gLamT, lamS, lam1, entryL, e_gxV, e_gItemsT, e_gFvals, e_giItems, e_gFsortD, e_sortDK_dic, kvD, goEqE_lst, goEqE_tup, List.isEmpty_cons, List.isEmpty_nil, gcReprA_1, gcStrA_1, goEqI_x, goAddB_ii, goAddB_bi, goAddB_ib, goSubB_ii, goSubB_bi, goSubB_ib, goMulB_ii, goMulB_bi, goMulB_ib, guNegB_i, guNegB_b])
local macro_rules | `(tactic| wp_walk using $ts,*) => `(tactic| simp only [$[$ts:term],*, e_gSeq, e_gSet, e_gRet, e_gRetN, e_gNext, e_gIfS, e_gDrop, e_gOwn, e_gApp, e_gExt, e_gForM, e_gLcM, e_gCnt, e_gTryV, e_gTryE, e_gxP, e_gxM, DL.Fr.mute, e_gIPut, e_gFrz, frz, e_gAsg, e_gPar, e_gPar3, e_gAug, e_gRaise, e_gRetM, e_gSetM, e_gMPut, e_gMGet, e_g1, e_g2, e_gC, e_gV, e_gVw, e_gB, e_gAnd, e_gOr, e_gNot, e_gNotV, e_gIf, e_DL_gCons, e_DL_gNil, e_DL_gTup, e_DL_gLst, e_gFl, e_gFd, e_gCa, e_gLenS, e_gPart, e_gNoP, e_gDisp, e_gPcons, e_gPnil, e_gtN, e_gtTup, e_gtCons, e_gtNil, e_gYes, e_gFor, e_gLc, e_giS, e_gCallP, e_gCallM, e_gScr, entry, aSls, aSl, DL.Fr.set, OM.d, wipeF, wipeS, keyD, List.length_cons, List.length_nil, List.cons_append, List.nil_append, List.append_nil, List.replicate_succ, List.replicate_zero, List.getElem?_cons_zero, List.getElem?_cons_succ, List.getElem?_nil, List.set_cons_zero, List.set_cons_succ, Nat.reduceAdd, Nat.reduceSub, if_true, if_false, ite_true, ite_false, reduceIte, Bool.false_eq_true, Bool.not_true, Bool.not_false, List.all_cons, List.all_nil, Bool.and_true, true_and, and_true, List.map_cons, List.map_nil, e_gIdx, ixT_ints, intsOf_map, Int.reduceToNat, Option.some.injEq, exists_eq_left', e_goAdd_int, e_goAdd_str, e_goAdd_tup, e_goAdd_lst, e_goAddW_int, e_goAddW_lst, e_goPlus_int, e_goI_int, e_guI_int, e_gcI1_int, e_goIx_lst, e_gcLen_lst, e_gcTupleS_lst, e_gcList_lst, e_goRevA_lst, e_goIx_tup, e_gcLen_tup, e_gcTupleS_tup, e_gcList_tup, e_goRevA_tup, e_gcTuple_lst, e_goIx_str, e_gcLen_str, e_gcInt_int, e_gcInt_bl, e_goMulT_tup, e_goMulL_lst, e_goIsB_bl, e_goIsN_non, isN_int, isN_bl, isN_str, isN_tup, isN_lst, isN_dic, isN_ref, isN_ty, isN_non, gTru_k, e_truK_non, e_truK_bl, e_truK_int, e_truK_lst, e_truK_tup, e_truK_str, gFlist_k, e_lstK_lst, e_lstK_tup, gsSl_k, e_slK_lst, slK_tup, e_slK_str, itsD_k, e_itsK_lst, e_itsK_tup, giZip_k, e_zipK_lst, e_zipK_tup, giR1_k, ran1K_nat, e_ran1K_int, giR2_k, e_ran2K_int, e_goLtA_int, goLtA_tup, ok_non, eqv_bl, e_goEq_int, e_goNe_int, e_goEq_bl, e_goNe_bl, gcMin_ints, gcMinT_ints, gcMax_ints, gcMaxT_ints, intsOf_mapf, blsOf_mapf, gcMin_f, gcMax_f, gcMin_2, gcMax_2, gcSum_ints, gcSum_f, gcBls_f, all_mapid, any_mapid, at_0, at_1, at_2, at_3, at_last, noOwn_nil, noOwn_1, noOwn_2, nof_n, nof_v, nof_b, nof_s, zipD_map, enumD_map, isi_non_int, isi_non_bool, isi_non_str, isi_non_tuple, isi_non_list, isi_non_dict, isi_bl_int, isi_bl_bool, isi_bl_str, isi_bl_tuple, isi_bl_list, isi_bl_dict, isi_int_int, isi_int_bool, isi_int_str, isi_int_tuple, isi_int_list, isi_int_dict, isi_str_int, isi_str_bool, isi_str_str, isi_str_tuple, isi_str_list, isi_str_dict, isi_tup_int, isi_tup_bool, isi_tup_str, isi_tup_tuple, isi_tup_list, isi_tup_dict, isi_lst_int, isi_lst_bool, isi_lst_str, isi_lst_tuple, isi_lst_list, isi_lst_dict, isi_dic_int, isi_dic_bool, isi_dic_str, isi_dic_tuple, isi_dic_list, isi_dic_dict, gcAll, gcAny, goMod, goFdiv, decide_eq_true_eq, Bool.not_eq_true', decide_eq_false_iff_not, ite_not, Bool.and_eq_true, not_false_eq_true, Bool.not_eq_true, List.map_append, Int.zero_add, List.any_cons, List.any_nil, Bool.true_and, Bool.or_false, Bool.xor_false, Bool.false_xor, Bool.true_xor, Bool.not_not, forall_const, Int.toNat_natCast, List.length_map, List.length_append, and_self, ne_eq, List.map_eq_nil_iff, not_true_eq_false, eq_self, goMulI, goSub, goPow, goLe, goGt, goGe, guNeg, gcAbs, e_goEq_str, e_goNe_str, e_goEq_tup, e_goNe_tup, e_goEq_lst, e_goNe_lst, e_goEq_non, e_goNe_non, e_gAndV_k, e_gOrV_k, e_gCh_k, blK_bl, ite_bf, reduceCtorEq, Int.reducePow, Int.reduceLT, Int.reduceLE, Int.reduceNeg, sz0, se0, sz1, se1, sz2, se2, sz3, se3, sz4, se4, sz5, se5, sz6, se6, sz7, se7, sz8, se8, sz9, se9, e_gFld, e_fldK_ref, e_gPutF, e_gPutFM, e_putFK_ref, e_gDrf, e_drfK_ref, e_gMApp, e_mlK_ref, e_gMPop, e_popK_int, e_gMIns, ins2K_2, insK_int, e_gMeth, e_mthK_ref, e_gMake, e_giR3, e_gFlR1, e_gFlR2, e_rg2K_int, e_gLenSet, lenSetK_lst, lenSetK_tup, e_gMinD, minDK_lst, e_giMem, e_giBA, e_gMIdx, e_goTab, e_gFsort, sortK_lst, sortK_tup, e_gStep, e_stepK_lst, e_gAppM, e_gDictV, e_gFdict, e_dictK_lst, e_dictK_tup, e_dictK_dic, e_gDic0, e_gFdic0, e_gDGet1, e_gDGet2, e_dicK_dic, e_gOPut, e_gOPop, e_giKeys, e_gPconsI, e_gDispV, e_goIx_dic, e_gcLen_dic, e_lstK_dic, e_truK_dic, getK, dgetK, e_gOIns, ins2K_2, insK_int, e_gCallL, e_gAct, e_gxAct, gLamT, lamS, lam1, entryL, e_gxV, e_gItemsT, e_gFvals, e_giItems, e_gFsortD, e_sortDK_dic, kvD, goEqE_lst, goEqE_tup, List.isEmpty_cons, List.isEmpty_nil, gcReprA_1, gcStrA_1, goEqI_x, goAddB_ii, goAddB_bi, goAddB_ib, goSubB_ii, goSubB_bi, goSubB_ib, goMulB_ii, goMulB_bi, goMulB_ib, guNegB_i, guNegB_b])
variable {K : PySem.W.Frag}
mutual
def gd (m : Nat) : PyData → Bool
  | .none | .bool _ => true
  | .int i => decide (i.natAbs < 10 ^ m)
  | .str x => PyData.strOk x
  | .list xs | .tuple xs => gdL m xs
  | .dict kvs => gdK m kvs
def gdL (m : Nat) : List PyData → Bool
  | [] => true
  | x :: r => gd m x && gdL m r
def gdK (m : Nat) : List (PyData × PyData) → Bool
  | [] => true
  | (k, v) :: r => gd m k && gd m v && gdK m r
end
theorem sok_char (c : Char) : c.toNat < 0x110000 := by
  have h := c.valid
  have e : c.val.toNat = c.toNat := rfl
  unfold UInt32.isValidChar Nat.isValidChar at h
  omega
theorem sok_reprChar (q c : Nat) (hq : q < 0x110000) (hc : c < 0x110000) : ∀ d ∈ PySem.Builtin.Str.reprChar q c, d < 0x110000 := by
  have hx : ∀ n, ∀ d ∈ (Nat.toDigits 16 n).map Char.toNat, d < 0x110000 := fun n d hd => by
    obtain ⟨z, _, rfl⟩ := List.mem_map.mp hd
    exact sok_char z
  intro d hd
  unfold PySem.Builtin.Str.reprChar at hd
  dsimp only at hd
  have two : ∀ {a b : Nat}, a < 0x110000 → b < 0x110000 → d ∈ [a, b] → d < 0x110000 := fun h1 h2 h => by
    simp only [List.mem_cons, List.not_mem_nil, or_false] at h
    rcases h with rfl | rfl <;> assumption
  have hex : ∀ {a b w : Nat}, a < 0x110000 → b < 0x110000 → d ∈ [a, b] ++ (List.replicate w 48 ++ (Nat.toDigits 16 c).map Char.toNat) → d < 0x110000 := fun h1 h2 h => by
    rcases List.mem_append.mp h with h | h
    · exact two h1 h2 h
    rcases List.mem_append.mp h with h | h
    · rw [(List.mem_replicate.mp h).2]; decide
    · exact hx _ _ h
  repeat' split at hd
  all_goals first
    | exact two (by omega) (by omega) hd
    | exact hex (by omega) (by omega) hd
    | (rw [List.mem_singleton.mp hd]; omega)
theorem sok_fold (q : Nat) (hq : q < 0x110000) : ∀ (l : List Nat) (acc : Array Nat), (∀ c ∈ l, c < 0x110000) → (∀ c ∈ acc.toList, c < 0x110000) → ∀ c ∈ (l.foldl (fun out c => out ++ (PySem.Builtin.Str.reprChar q c).toArray) acc).toList, c < 0x110000
  | [], acc, _, h => h
  | c :: r, acc, h, h2 => sok_fold q hq r _ (fun d hd => h d (List.mem_cons_of_mem _ hd)) fun d hd => by
    rw [Array.toList_append, List.mem_append] at hd
    rcases hd with hd | hd
    · exact h2 d hd
    · exact sok_reprChar q c hq (h c (List.mem_cons_self ..)) d hd
theorem sok_iff {x : PySem.Str} : PyData.strOk x = true ↔ ∀ c ∈ x.cps.toList, c < 0x110000 := by
  show x.cps.all (· < 0x110000) = true ↔ _
  rw [← Array.all_toList, List.all_eq_true]
  exact ⟨fun h c hc => of_decide_eq_true (h c hc), fun h c hc => decide_eq_true (h c hc)⟩
theorem sok_repr {x : PySem.Str} (h : PyData.strOk x = true) : PyData.strOk (PyData.str x).shown = true := by
  have hq : reprQuote x < 0x110000 := by
    unfold reprQuote
    split <;> decide
  rw [sok_iff] at h ⊢
  intro c hc
  have hc : c ∈ ((x.cps.foldl (fun out c => out ++ (PySem.Builtin.Str.reprChar (reprQuote x) c).toArray) #[reprQuote x]).push (reprQuote x)).toList := hc
  rw [Array.toList_push, List.mem_append, ← Array.foldl_toList] at hc
  rcases hc with hc | hc
  · exact sok_fold _ hq _ _ h (fun d hd => by rw [show d = reprQuote x by simpa using hd]; exact hq) c hc
  · rw [List.mem_singleton.mp hc]; exact hq
theorem sok_dict {ts : List PySem.Str} (h : ∀ t ∈ ts, PyData.strOk t = true) : PyData.strOk (dictText ts) = true := sok_app (sok_app (sok_of _) (sok_join ts h)) (sok_of _)
mutual
theorem gd_sok {m : Nat} : ∀ (d : PyData), gd m d = true → PyData.strOk d.shown = true
  | .none, _ => sok_of _
  | .bool b, _ => by
    show PyData.strOk (if b = true then ("True" : PySem.Str) else ("False" : PySem.Str)) = true
    split
    · exact sok_of _
    · exact sok_of _
  | .int i, _ => sok_of _
  | .str x, h => sok_repr h
  | .tuple xs, h => sok_tup (gdL_sok xs h)
  | .list xs, h => sok_list (gdL_sok xs h)
  | .dict kvs, h => sok_dict (gdK_sok kvs h)
theorem gdL_sok {m : Nat} : ∀ (ds : List PyData), gdL m ds = true → ∀ t ∈ PyData.shownAll ds, PyData.strOk t = true
  | [], _, t, ht => by cases ht
  | d :: ds, h, t, ht => by
    have h' := Bool.and_eq_true_iff.mp (show (gd m d && gdL m ds) = true from h)
    rcases List.mem_cons.mp (show t ∈ d.shown :: PyData.shownAll ds from ht) with rfl | ht
    · exact gd_sok d h'.1
    · exact gdL_sok ds h'.2 t ht
theorem gdK_sok {m : Nat} : ∀ (ds : List (PyData × PyData)), gdK m ds = true → ∀ t ∈ PyData.shownKv ds, PyData.strOk t = true
  | [], _, t, ht => by cases ht
  | (k, d) :: ds, h, t, ht => by
    have h' := Bool.and_eq_true_iff.mp (show ((gd m k && gd m d) && gdK m ds) = true from h)
    have h1 := Bool.and_eq_true_iff.mp h'.1
    rcases List.mem_cons.mp (show t ∈ (k.shown ++ ": " ++ d.shown) :: PyData.shownKv ds from ht) with rfl | ht
    · exact sok_app (sok_app (gd_sok k h1.1) (sok_of _)) (gd_sok d h1.2)
    · exact gdK_sok ds h'.2 t ht
end
mutual
theorem gd_sh {m : Nat} (hm : m ≤ 500) : ∀ (d : PyData), gd m d = true → d.showable = true
  | .none, _ => rfl
  | .bool b, _ => rfl
  | .int i, h => by
    have h : i.natAbs < 10 ^ m := of_decide_eq_true h
    refine decide_eq_true ?_
    have e : (10 : Nat) ^ m ≤ 10 ^ 500 := Nat.pow_le_pow_right (by decide) hm
    by_cases z : i.natAbs = 0
    · rw [z]; decide +kernel
    · rw [Nat.log2_lt z]
      have : (10 : Nat) ^ 500 < 2 ^ 1920 := by decide +kernel
      omega
  | .str x, h => rfl
  | .tuple xs, h => gdL_sh hm xs h
  | .list xs, h => gdL_sh hm xs h
  | .dict kvs, h => gdK_sh hm kvs h
theorem gdL_sh {m : Nat} (hm : m ≤ 500) : ∀ (ds : List PyData), gdL m ds = true → PyData.showableAll ds = true
  | [], _ => rfl
  | d :: ds, h => by
    have h' := Bool.and_eq_true_iff.mp (show (gd m d && gdL m ds) = true from h)
    exact Bool.and_eq_true_iff.mpr ⟨gd_sh hm d h'.1, gdL_sh hm ds h'.2⟩
theorem gdK_sh {m : Nat} (hm : m ≤ 500) : ∀ (ds : List (PyData × PyData)), gdK m ds = true → PyData.showableKv ds = true
  | [], _ => rfl
  | (k, d) :: ds, h => by
    have h' := Bool.and_eq_true_iff.mp (show ((gd m k && gd m d) && gdK m ds) = true from h)
    have h1 := Bool.and_eq_true_iff.mp h'.1
    exact Bool.and_eq_true_iff.mpr ⟨Bool.and_eq_true_iff.mpr ⟨gd_sh hm k h1.1, gd_sh hm d h1.2⟩, gdK_sh hm ds h'.2⟩
end
mutual
theorem gd_lv {m c : Nat} (h0 : 0 < m) (hm : m + 2 ≤ c) (hc : 40 ≤ c) : ∀ (d : PyData), gd m d = true → d.leavesShort c = true
  | .none, _ => rfl
  | .bool b, _ => rfl
  | .int i, h => by
    have e := int_text_length_le10 h0 (of_decide_eq_true h)
    refine decide_eq_true ?_
    show (PySem.Str.ofString (toString i)).length ≤ c
    rw [PySem.ofString_length]
    omega
  | .str x, h => by
    refine List.all_eq_true.mpr fun x hx => decide_eq_true ?_
    have := sok_iff.mp h x hx
    omega
  | .tuple xs, h => gdL_lv h0 hm hc xs h
  | .list xs, h => gdL_lv h0 hm hc xs h
  | .dict kvs, h => gdK_lv h0 hm hc kvs h
theorem gdL_lv {m c : Nat} (h0 : 0 < m) (hm : m + 2 ≤ c) (hc : 40 ≤ c) : ∀ (ds : List PyData), gdL m ds = true → PyData.leavesShortAll c ds = true
  | [], _ => rfl
  | d :: ds, h => by
    have h' := Bool.and_eq_true_iff.mp (show (gd m d && gdL m ds) = true from h)
    exact Bool.and_eq_true_iff.mpr ⟨gd_lv h0 hm hc d h'.1, gdL_lv h0 hm hc ds h'.2⟩
theorem gdK_lv {m c : Nat} (h0 : 0 < m) (hm : m + 2 ≤ c) (hc : 40 ≤ c) : ∀ (ds : List (PyData × PyData)), gdK m ds = true → PyData.leavesShortKv c ds = true
  | [], _ => rfl
  | (k, d) :: ds, h => by
    have h' := Bool.and_eq_true_iff.mp (show ((gd m k && gd m d) && gdK m ds) = true from h)
    have h1 := Bool.and_eq_true_iff.mp h'.1
    exact Bool.and_eq_true_iff.mpr ⟨Bool.and_eq_true_iff.mpr ⟨gd_lv h0 hm hc k h1.1, gd_lv h0 hm hc d h1.2⟩, gdK_lv h0 hm hc ds h'.2⟩
end
/-- data that may stand in an odd thing: whole numbers below 10 ^ m, k deep at most -/
structure Od (m k : Nat) (d : D) : Prop where
  da : d.da = true
  g : gd m d.pyA = true
  dep : d.pyA.depth ≤ k
def wtD (d : D) : Nat := d.pyA.weight
def wtL : List D → Nat
  | [] => 0
  | d :: r => wtD d + 1 + wtL r
theorem wtL_eq : ∀ xs : List D, PyData.weightAll (D.pyAL xs) = wtL xs
  | [] => rfl
  | d :: r => by
    show d.pyA.weight + 1 + PyData.weightAll (D.pyAL r) = wtD d + 1 + wtL r
    rw [wtL_eq r]; rfl
theorem wtD_tup {xs : List D} : wtD (.tup xs) = wtL xs := wtL_eq xs
theorem wtL_len : ∀ xs : List D, xs.length ≤ wtL xs
  | [] => Nat.le_refl _
  | d :: r => by
    have := wtL_len r
    show r.length + 1 ≤ wtD d + 1 + wtL r
    omega
theorem Od.rp {m k : Nat} {d : D} (h : Od m k d) (h0 : 0 < m) (hm : m ≤ 38) (hk : k ≤ 60) (hw : wtD d ≤ 300000) : Rp 60 16000000 d where
  da := h.da
  sh := gd_sh (by omega) _ h.g
  dep := Nat.le_trans h.dep hk
  len := by
    have e : d.pyA.weight ≤ 300000 := hw
    have := PyData.shown_le 40 (by decide) d.pyA (gd_lv h0 (by omega) (by decide) _ h.g)
    omega
theorem Od.mono {m m' k k' : Nat} {d : D} (h : Od m k d) (hm : ∀ p : PyData, gd m p = true → gd m' p = true) (hk : k ≤ k') : Od m' k' d := ⟨h.da, hm _ h.g, Nat.le_trans h.dep hk⟩
theorem Od.up {m k k' : Nat} {d : D} (h : Od m k d) (hk : k ≤ k') : Od m k' d := ⟨h.da, h.g, Nat.le_trans h.dep hk⟩
theorem gdL_iff {m : Nat} : ∀ {xs : List D}, gdL m (D.pyAL xs) = true ↔ ∀ x ∈ xs, gd m x.pyA = true
  | [] => ⟨fun _ x hx => absurd hx List.not_mem_nil, fun _ => rfl⟩
  | d :: r => by
    show (gd m d.pyA && gdL m (D.pyAL r)) = true ↔ _
    rw [Bool.and_eq_true, gdL_iff, List.forall_mem_cons]
theorem depL_iff {k : Nat} : ∀ {xs : List D}, PyData.depthAll (D.pyAL xs) ≤ k ↔ ∀ x ∈ xs, x.pyA.depth ≤ k
  | [] => ⟨fun _ x hx => absurd hx List.not_mem_nil, fun _ => Nat.zero_le _⟩
  | d :: r => by
    show max d.pyA.depth (PyData.depthAll (D.pyAL r)) ≤ k ↔ _
    rw [Nat.max_le, depL_iff, List.forall_mem_cons]
theorem Od.tup {m k : Nat} {xs : List D} (h : ∀ x ∈ xs, Od m k x) : Od m (k + 1) (.tup xs) where
  da := D.daL_of fun x hx => (h x hx).da
  g := gdL_iff.mpr fun x hx => (h x hx).g
  dep := Nat.succ_le_succ (depL_iff.mpr fun x hx => (h x hx).dep)
theorem Od.lst {m k : Nat} {xs : List D} (h : ∀ x ∈ xs, Od m k x) : Od m (k + 1) (.lst xs) where
  da := D.daL_of fun x hx => (h x hx).da
  g := gdL_iff.mpr fun x hx => (h x hx).g
  dep := Nat.succ_le_succ (depL_iff.mpr fun x hx => (h x hx).dep)
theorem Od.els {m k : Nat} {xs : List D} (h : Od m k (.tup xs)) : ∀ x ∈ xs, Od m k x := fun x hx =>
  ⟨D.daL_mem h.da x hx, gdL_iff.mp h.g x hx, Nat.le_trans (depL_iff.mp (Nat.le_refl _) x hx) (Nat.le_of_succ_le h.dep)⟩
theorem Od.int {m k : Nat} {i : Int} (h : i.natAbs < 10 ^ m) : Od m k (.int i) := ⟨rfl, decide_eq_true h, Nat.zero_le _⟩
theorem Od.bl {m k : Nat} {b : Bool} : Od m k (.bl b) := ⟨rfl, rfl, Nat.zero_le _⟩
theorem Od.non {m k : Nat} : Od m k .non := ⟨rfl, rfl, Nat.zero_le _⟩
theorem Od.str {m k : Nat} {x : PySem.Str} (h : PyData.strOk x = true) : Od m k (.str x) := ⟨rfl, h, Nat.zero_le _⟩
mutual
theorem gd_up {m m' : Nat} (hm : m ≤ m') : ∀ (d : PyData), gd m d = true → gd m' d = true
  | .none, _ => rfl
  | .bool b, _ => rfl
  | .int i, h => decide_eq_true (Nat.lt_of_lt_of_le (of_decide_eq_true h) (Nat.pow_le_pow_right (by decide) hm))
  | .str x, h => h
  | .tuple xs, h => gdL_up hm xs h
  | .list xs, h => gdL_up hm xs h
  | .dict kvs, h => gdK_up hm kvs h
theorem gdL_up {m m' : Nat} (hm : m ≤ m') : ∀ (ds : List PyData), gdL m ds = true → gdL m' ds = true
  | [], _ => rfl
  | d :: ds, h => by
    have h' := Bool.and_eq_true_iff.mp (show (gd m d && gdL m ds) = true from h)
    exact Bool.and_eq_true_iff.mpr ⟨gd_up hm d h'.1, gdL_up hm ds h'.2⟩
theorem gdK_up {m m' : Nat} (hm : m ≤ m') : ∀ (ds : List (PyData × PyData)), gdK m ds = true → gdK m' ds = true
  | [], _ => rfl
  | (k, d) :: ds, h => by
    have h' := Bool.and_eq_true_iff.mp (show ((gd m k && gd m d) && gdK m ds) = true from h)
    have h1 := Bool.and_eq_true_iff.mp h'.1
    exact Bool.and_eq_true_iff.mpr ⟨Bool.and_eq_true_iff.mpr ⟨gd_up hm k h1.1, gd_up hm d h1.2⟩, gdK_up hm ds h'.2⟩
end
theorem Od.upm {m m' k k' : Nat} {d : D} (h : Od m k d) (hm : m ≤ m') (hk : k ≤ k') : Od m' k' d := ⟨h.da, gd_up hm _ h.g, Nat.le_trans h.dep hk⟩
theorem wt_int {i : Int} {k : Nat} (h : i.natAbs < 2 ^ k) : wtD (.int i) ≤ k := by
  show (if i == 0 then 0 else i.natAbs.log2 + 1) ≤ k
  split
  · exact Nat.zero_le _
  · rename_i z
    have z : i.natAbs ≠ 0 := fun e => z (by rw [Int.natAbs_eq_zero.mp e]; rfl)
    exact (Nat.log2_lt z).mpr h
theorem wt_int10 {i : Int} {m : Nat} (h : i.natAbs < 10 ^ m) (hm : m ≤ 38) : wtD (.int i) ≤ 127 := wt_int (by
  have e : (10 : Nat) ^ m ≤ 10 ^ 38 := Nat.pow_le_pow_right (by decide) hm
  have : (10 : Nat) ^ 38 < 2 ^ 127 := by decide +kernel
  omega)
/-- what becomes of one thing -/
structure OneCh (m k n : Nat) (d : D) : Prop where
  od : Od m k d
  wt : wtD d ≤ n
theorem OneCh.int {m k n : Nat} {i : Int} (h : i.natAbs < 10 ^ m) (hm : m ≤ 38) (hn : 127 ≤ n) : OneCh m k n (.int i) := ⟨.int h, Nat.le_trans (wt_int10 h hm) hn⟩
/-- the elements of a changed tuple -/
structure Els (m k n : Nat) (xs : List D) : Prop where
  od : ∀ x ∈ xs, Od m k x
  wt : wtL xs ≤ n
theorem Els.one {m k n : Nat} {d : D} (h : OneCh m k n d) : Els m k (n + 1) [d] := ⟨fun x hx => by rw [List.mem_singleton.mp hx]; exact h.od, by show wtD d + 1 + 0 ≤ n + 1; have := h.wt; omega⟩
theorem Els.tup {m k n n' : Nat} {xs : List D} (h : Els m k n xs) (hn : n ≤ n') : OneCh m (k + 1) n' (.tup xs) := ⟨.tup h.od, by rw [wtD_tup]; exact Nat.le_trans h.wt hn⟩
structure Cd (a : Addr) (m k e : Nat) (xs : List D) (M : Mem) (Q : D → Mem → Prop) : Prop where
  ms : M a = some .st
  od : ∀ x ∈ xs, Od m k x
  h1 : 31 ≤ m
  h2 : m ≤ 35
  k2 : k ≤ 40
  wt : wtL xs ≤ 240000
  we : ∀ x ∈ xs, wtD x ≤ e
  fin : ∀ d', OneCh (m + 1) (k + 2) (4 * wtL xs + 42 * e + 400) d' → Q d' M
section
variable {a : Addr} {m k e : Nat} {xs : List D} {M : Mem} {Q N : D → Mem → Prop} {X : Addr → Mem → Prop} {at_ w : Int} {x4 x5 : Sl}
theorem Cd.len (h : Cd a m k e xs M Q) : xs.length ≤ 240000 := Nat.le_trans (wtL_len xs) h.wt
theorem Cd.els (h : Cd a m k e xs M Q) : Els (m + 1) (k + 1) (wtL xs) xs := ⟨fun x hx => (h.od x hx).upm (by omega) (by omega), Nat.le_refl _⟩
theorem Cd.tup (h : Cd a m k e xs M Q) {n : Nat} {ys : List D} (hy : Els (m + 1) (k + 1) n ys) (hn : n ≤ 4 * wtL xs + 42 * e + 400) : Q (.tup ys) M := h.fin _ (hy.tup hn)
end
end LW
namespace LW
open PySem PySem.Spec PySem.W PyProof.Rows L2 DL
local macro_rules | `(tactic| wp_walk) => `(tactic| simp only [e_gSeq, e_gSet, e_gRet, e_gRetN, e_gNext, e_gIfS, e_gDrop, e_gOwn, e_gApp, e_gExt, e_gForM, e_gLcM, e_gCnt, e_gTryV, e_gTryE, e_gxP, e_gxM, DL.Fr.mute, e_gIPut, e_gFrz, frz, e_gAsg, e_gPar, e_gPar3, e_gAug, e_gRaise, e_gRetM, e_gSetM, e_gMPut, e_gMGet, e_g1, e_g2, e_gC, e_gV, e_gVw, e_gB, e_gAnd, e_gOr, e_gNot, e_gNotV, e_gIf, e_DL_gCons, e_DL_gNil, e_DL_gTup, e_DL_gLst, e_gFl, e_gFd, e_gCa, e_gLenS, e_gPart, e_gNoP, e_gDisp, e_gPcons, e_gPnil, e_gtN, e_gtTup, e_gtCons, e_gtNil, e_gYes, e_gFor, e_gLc, e_giS, e_gCallP, e_gCallM, e_gScr, entry, aSls, aSl, DL.Fr.set, OM.d, wipeF, wipeS, keyD, List.length_cons, List.length_nil, List.cons_append, List.nil_append, List.append_nil, List.replicate_succ, List.replicate_zero, List.getElem?_cons_zero, List.getElem?_cons_succ, List.getElem?_nil, List.set_cons_zero, List.set_cons_succ, Nat.reduceAdd, Nat.reduceSub, if_true, if_false, ite_true, ite_false, reduceIte, Bool.false_eq_true, Bool.not_true, Bool.not_false, List.all_cons, List.all_nil, Bool.and_true, true_and, and_true, List.map_cons, List.map_nil, e_gIdx, ixT_ints, intsOf_map, Int.reduceToNat, Option.some.injEq, exists_eq_left', e_goAdd_int, e_goAdd_str, e_goAdd_tup, e_goAdd_lst, e_goAddW_int, e_goAddW_lst, e_goPlus_int, e_goI_int, e_guI_int, e_gcI1_int, e_goIx_lst, e_gcLen_lst, e_gcTupleS_lst, e_gcList_lst, e_goRevA_lst, e_goIx_tup, e_gcLen_tup, e_gcTupleS_tup, e_gcList_tup, e_goRevA_tup, e_gcTuple_lst, e_goIx_str, e_gcLen_str, e_gcInt_int, e_gcInt_bl, e_goMulT_tup, e_goMulL_lst, e_goIsB_bl, e_goIsN_non, isN_int, isN_bl, isN_str, isN_tup, isN_lst, isN_dic, isN_ref, isN_ty, isN_non, gTru_k, e_truK_non, e_truK_bl, e_truK_int, e_truK_lst, e_truK_tup, e_truK_str, gFlist_k, e_lstK_lst, e_lstK_tup, gsSl_k, e_slK_lst, slK_tup, e_slK_str, itsD_k, e_itsK_lst, e_itsK_tup, giZip_k, e_zipK_lst, e_zipK_tup, giR1_k, ran1K_nat, e_ran1K_int, giR2_k, e_ran2K_int, e_goLtA_int, goLtA_tup, ok_non, eqv_bl, e_goEq_int, e_goNe_int, e_goEq_bl, e_goNe_bl, gcMin_ints, gcMinT_ints, gcMax_ints, gcMaxT_ints, intsOf_mapf, blsOf_mapf, gcMin_f, gcMax_f, gcMin_2, gcMax_2, gcSum_ints, gcSum_f, gcBls_f, all_mapid, any_mapid, at_0, at_1, at_2, at_3, at_last, noOwn_nil, noOwn_1, noOwn_2, nof_n, nof_v, nof_b, nof_s, zipD_map, enumD_map, isi_non_int, isi_non_bool, isi_non_str, isi_non_tuple, isi_non_list, isi_non_dict, isi_bl_int, isi_bl_bool, isi_bl_str, isi_bl_tuple, isi_bl_list, isi_bl_dict, isi_int_int, isi_int_bool, isi_int_str, isi_int_tuple, isi_int_list, isi_int_dict, isi_str_int, isi_str_bool, isi_str_str, isi_str_tuple, isi_str_list, isi_str_dict, isi_tup_int, isi_tup_bool, isi_tup_str, isi_tup_tuple, isi_tup_list, isi_tup_dict, isi_lst_int, isi_lst_bool, isi_lst_str, isi_lst_tuple, isi_lst_list, isi_lst_dict, isi_dic_int, isi_dic_bool, isi_dic_str, isi_dic_tuple, isi_dic_list, isi_dic_dict, gcAll, gcAny, goMod, goFdiv, decide_eq_true_eq, Bool.not_eq_true', decide_eq_false_iff_not, ite_not, Bool.and_eq_true, not_false_eq_true, Bool.not_eq_true, List.map_append, Int.zero_add, List.any_cons, List.any_nil, Bool.true_and, Bool.or_false, Bool.xor_false, Bool.false_xor, Bool.true_xor, Bool.not_not, forall_const, Int.toNat_natCast, List.length_map, List.length_append, and_self, ne_eq, List.map_eq_nil_iff, not_true_eq_false, eq_self, goMulI, goSub, goPow, goLe, goGt, goGe, guNeg, gcAbs, e_goEq_str, e_goNe_str, e_goEq_tup, e_goNe_tup, e_goEq_lst, e_goNe_lst, e_goEq_non, e_goNe_non, e_gAndV_k, e_gOrV_k, e_gCh_k, blK_bl, ite_bf, reduceCtorEq, Int.reducePow, Int.reduceLT, Int.reduceLE, Int.reduceNeg, sz0, se0, sz1, se1, sz2, se2, sz3, se3, sz4, se4, sz5, se5, sz6, se6, sz7, se7, sz8, se8, sz9, se9, e_gFld, e_fldK_ref, e_gPutF, e_gPutFM, e_putFK_ref, e_gDrf, e_drfK_ref, e_gMApp, e_mlK_ref, e_gMPop, e_popK_int, e_gMIns, ins2K_2, insK_int, e_gMeth, e_mthK_ref, e_gMake, e_giR3, e_gFlR1, e_gFlR2, e_rg2K_int, e_gLenSet, lenSetK_lst, lenSetK_tup, e_gMinD, minDK_lst, e_giMem, e_giBA, e_gMIdx, e_goTab, e_gFsort, sortK_lst, sortK_tup, e_gStep, e_stepK_lst, e_gAppM, e_gDictV, e_gFdict, e_dictK_lst, e_dictK_tup, e_dictK_dic, e_gDic0, e_gFdic0, e_gDGet1, e_gDGet2, e_dicK_dic, e_gOPut, e_gOPop, e_giKeys, e_gPconsI, e_gDispV, e_goIx_dic, e_gcLen_dic, e_lstK_dic, e_truK_dic, getK, dgetK, e_gOIns, ins2K_2, insK_int, e_gCallL, e_gAct, e_gxAct, gLamT, lamS, lam1, entryL, e_gxV, e_gItemsT, e_gFvals, e_giItems, e_gFsortD, e_sortDK_dic, kvD, goEqE_lst, goEqE_tup, List.isEmpty_cons, List.isEmpty_nil, gcReprA_1, gcStrA_1, goEqI_x, goAddB_ii, goAddB_bi, goAddB_ib, goSubB_ii, goSubB_bi, goSubB_ib, goMulB_ii, goMulB_bi, goMulB_ib, guNegB_i, guNegB_b, goMulS_x, gcIntS_1, e_gIxO, e_gFaddO, giZipX_k, zipXK_ll, zipXK_tt, zipXK_tl, zipXK_lt, goInT_tup, e_gtLst])
local macro_rules | `(tactic| wp_walk using $ts,*) => `(tactic| simp only [$[$ts:term],*, e_gSeq, e_gSet, e_gRet, e_gRetN, e_gNext, e_gIfS, e_gDrop, e_gOwn, e_gApp, e_gExt, e_gForM, e_gLcM, e_gCnt, e_gTryV, e_gTryE, e_gxP, e_gxM, DL.Fr.mute, e_gIPut, e_gFrz, frz, e_gAsg, e_gPar, e_gPar3, e_gAug, e_gRaise, e_gRetM, e_gSetM, e_gMPut, e_gMGet, e_g1, e_g2, e_gC, e_gV, e_gVw, e_gB, e_gAnd, e_gOr, e_gNot, e_gNotV, e_gIf, e_DL_gCons, e_DL_gNil, e_DL_gTup, e_DL_gLst, e_gFl, e_gFd, e_gCa, e_gLenS, e_gPart, e_gNoP, e_gDisp, e_gPcons, e_gPnil, e_gtN, e_gtTup, e_gtCons, e_gtNil, e_gYes, e_gFor, e_gLc, e_giS, e_gCallP, e_gCallM, e_gScr, entry, aSls, aSl, DL.Fr.set, OM.d, wipeF, wipeS, keyD, List.length_cons, List.length_nil, List.cons_append, List.nil_append, List.append_nil, List.replicate_succ, List.replicate_zero, List.getElem?_cons_zero, List.getElem?_cons_succ, List.getElem?_nil, List.set_cons_zero, List.set_cons_succ, Nat.reduceAdd, Nat.reduceSub, if_true, if_false, ite_true, ite_false, reduceIte, Bool.false_eq_true, Bool.not_true, Bool.not_false, List.all_cons, List.all_nil, Bool.and_true, true_and, and_true, List.map_cons, List.map_nil, e_gIdx, ixT_ints, intsOf_map, Int.reduceToNat, Option.some.injEq, exists_eq_left', e_goAdd_int, e_goAdd_str, e_goAdd_tup, e_goAdd_lst, e_goAddW_int, e_goAddW_lst, e_goPlus_int, e_goI_int, e_guI_int, e_gcI1_int, e_goIx_lst, e_gcLen_lst, e_gcTupleS_lst, e_gcList_lst, e_goRevA_lst, e_goIx_tup, e_gcLen_tup, e_gcTupleS_tup, e_gcList_tup, e_goRevA_tup, e_gcTuple_lst, e_goIx_str, e_gcLen_str, e_gcInt_int, e_gcInt_bl, e_goMulT_tup, e_goMulL_lst, e_goIsB_bl, e_goIsN_non, isN_int, isN_bl, isN_str, isN_tup, isN_lst, isN_dic, isN_ref, isN_ty, isN_non, gTru_k, e_truK_non, e_truK_bl, e_truK_int, e_truK_lst, e_truK_tup, e_truK_str, gFlist_k, e_lstK_lst, e_lstK_tup, gsSl_k, e_slK_lst, slK_tup, e_slK_str, itsD_k, e_itsK_lst, e_itsK_tup, giZip_k, e_zipK_lst, e_zipK_tup, giR1_k, ran1K_nat, e_ran1K_int, giR2_k, e_ran2K_int, e_goLtA_int, goLtA_tup, ok_non, eqv_bl, e_goEq_int, e_goNe_int, e_goEq_bl, e_goNe_bl, gcMin_ints, gcMinT_ints, gcMax_ints, gcMaxT_ints, intsOf_mapf, blsOf_mapf, gcMin_f, gcMax_f, gcMin_2, gcMax_2, gcSum_ints, gcSum_f, gcBls_f, all_mapid, any_mapid, at_0, at_1, at_2, at_3, at_last, noOwn_nil, noOwn_1, noOwn_2, nof_n, nof_v, nof_b, nof_s, zipD_map, enumD_map, isi_non_int, isi_non_bool, isi_non_str, isi_non_tuple, isi_non_list, isi_non_dict, isi_bl_int, isi_bl_bool, isi_bl_str, isi_bl_tuple, isi_bl_list, isi_bl_dict, isi_int_int, isi_int_bool, isi_int_str, isi_int_tuple, isi_int_list, isi_int_dict, isi_str_int, isi_str_bool, isi_str_str, isi_str_tuple, isi_str_list, isi_str_dict, isi_tup_int, isi_tup_bool, isi_tup_str, isi_tup_tuple, isi_tup_list, isi_tup_dict, isi_lst_int, isi_lst_bool, isi_lst_str, isi_lst_tuple, isi_lst_list, isi_lst_dict, isi_dic_int, isi_dic_bool, isi_dic_str, isi_dic_tuple, isi_dic_list, isi_dic_dict, gcAll, gcAny, goMod, goFdiv, decide_eq_true_eq, Bool.not_eq_true', decide_eq_false_iff_not, ite_not, Bool.and_eq_true, not_false_eq_true, Bool.not_eq_true, List.map_append, Int.zero_add, List.any_cons, List.any_nil, Bool.true_and, Bool.or_false, Bool.xor_false, Bool.false_xor, Bool.true_xor, Bool.not_not, forall_const, Int.toNat_natCast, List.length_map, List.length_append, and_self, ne_eq, List.map_eq_nil_iff, not_true_eq_false, eq_self, goMulI, goSub, goPow, goLe, goGt, goGe, guNeg, gcAbs, e_goEq_str, e_goNe_str, e_goEq_tup, e_goNe_tup, e_goEq_lst, e_goNe_lst, e_goEq_non, e_goNe_non, e_gAndV_k, e_gOrV_k, e_gCh_k, blK_bl, ite_bf, reduceCtorEq, Int.reducePow, Int.reduceLT, Int.reduceLE, Int.reduceNeg, sz0, se0, sz1, se1, sz2, se2, sz3, se3, sz4, se4, sz5, se5, sz6, se6, sz7, se7, sz8, se8, sz9, se9, e_gFld, e_fldK_ref, e_gPutF, e_gPutFM, e_putFK_ref, e_gDrf, e_drfK_ref, e_gMApp, e_mlK_ref, e_gMPop, e_popK_int, e_gMIns, ins2K_2, insK_int, e_gMeth, e_mthK_ref, e_gMake, e_giR3, e_gFlR1, e_gFlR2, e_rg2K_int, e_gLenSet, lenSetK_lst, lenSetK_tup, e_gMinD, minDK_lst, e_giMem, e_giBA, e_gMIdx, e_goTab, e_gFsort, sortK_lst, sortK_tup, e_gStep, e_stepK_lst, e_gAppM, e_gDictV, e_gFdict, e_dictK_lst, e_dictK_tup, e_dictK_dic, e_gDic0, e_gFdic0, e_gDGet1, e_gDGet2, e_dicK_dic, e_gOPut, e_gOPop, e_giKeys, e_gPconsI, e_gDispV, e_goIx_dic, e_gcLen_dic, e_lstK_dic, e_truK_dic, getK, dgetK, e_gOIns, ins2K_2, insK_int, e_gCallL, e_gAct, e_gxAct, gLamT, lamS, lam1, entryL, e_gxV, e_gItemsT, e_gFvals, e_giItems, e_gFsortD, e_sortDK_dic, kvD, goEqE_lst, goEqE_tup, List.isEmpty_cons, List.isEmpty_nil, gcReprA_1, gcStrA_1, goEqI_x, goAddB_ii, goAddB_bi, goAddB_ib, goSubB_ii, goSubB_bi, goSubB_ib, goMulB_ii, goMulB_bi, goMulB_ib, guNegB_i, guNegB_b, goMulS_x, gcIntS_1, e_gIxO, e_gFaddO, giZipX_k, zipXK_ll, zipXK_tt, zipXK_tl, zipXK_lt, goInT_tup, e_gtLst])
variable {K : PySem.W.Frag}
set_option maxHeartbeats 1000000
def fs_l_all_kinds (K : PySem.W.Frag) : FS := fun ds M Q _ => ∃ so : So, ds = [.str so.s] ∧ Q (.lst ((kindsW so).map .str)) M
theorem mo_l_all_kinds {K : PySem.W.Frag} : MonoF (fs_l_all_kinds K) := fun _ _ _ _ _ _ h _ ⟨so, e, q⟩ => ⟨so, e, h _ _ q⟩
/-- _law_all_kinds -/
def g_l_all_kinds (K : PySem.W.Frag) : GS := gRet (gIf (gB (g2 goEqA (gV 0) (gC (.str "row")))) (gLst (gCons (gC (.str "strip")) (gCons (gC (.str "chain")) (gCons (gC (.str "blocks")) gNil)))) (gLst (gCons (gC (.str "heap")) (gCons (gC (.str "line")) (gCons (gC (.str "tiers")) (gCons (gC (.str "pails")) (gCons (gC (.str "tree")) gNil)))))))
theorem h_l_all_kinds {K : PySem.W.Frag} : ∀ ds M Q X, (fs_l_all_kinds K) ds M Q X → ds.length = ([.v] : List AK).length → g_l_all_kinds K { nx := fun _ M' => Q .non M', rt := Q } (entry 1 [.v] ds X) M := by
  rintro ds M Q X ⟨so, rfl, q⟩ -
  cases so
  case row =>
    wp_walk using g_l_all_kinds, So.s
    exact q
  all_goals
    wp_walk using g_l_all_kinds, So.s
    rw [if_neg (by decide)]
    exact q
def fs_l_is_size (K : PySem.W.Frag) : FS := fun ds M Q _ => ∃ (d : D) (m : Int), ds = [d, .int m] ∧ d.da = true ∧ Q (.bl (sizeB d m)) M
theorem mo_l_is_size {K : PySem.W.Frag} : MonoF (fs_l_is_size K) := fun _ _ _ _ _ _ h _ ⟨x, m, e, c, q⟩ => ⟨x, m, e, c, h _ _ q⟩
/-- _law_is_size -/
def g_l_is_size (K : PySem.W.Frag) : GS := gRet (gAndV (gCa gcIsi (gCons (gV 0) (gCons (gC (.ty "int")) gNil))) (gAndV (gNotV (gCa gcIsi (gCons (gV 0) (gCons (gC (.ty "bool")) gNil)))) (gCh goLe goLe (gC (.int 0)) (gV 0) (gV 1))))
theorem h_l_is_size {K : PySem.W.Frag} : ∀ ds M Q X, (fs_l_is_size K) ds M Q X → ds.length = ([.v, .v] : List AK).length → g_l_is_size K { nx := fun _ M' => Q .non M', rt := Q } (entry 2 [.v, .v] ds X) M := by
  rintro ds M Q X ⟨d, m, rfl, ht, q⟩ -
  cases d
  case int x =>
    wp_walk using g_l_is_size
    by_cases h : 0 ≤ x
    · simpa [sizeB, h] using q
    · simpa [sizeB, h] using q
  case ref => simp [D.da] at ht
  case ty => simp [D.da] at ht
  all_goals
    wp_walk using g_l_is_size
    exact q
def fs_l_words_3 (K : PySem.W.Frag) : FS := fun ds M Q _ => ∃ so : So, ds = [.str so.s] ∧ Q (.lst ((wordsW so).map .str)) M
theorem mo_l_words_3 {K : PySem.W.Frag} : MonoF (fs_l_words_3 K) := fun _ _ _ _ _ _ h _ ⟨so, e, q⟩ => ⟨so, e, h _ _ q⟩
/-- _law_words -/
def af1_l_words_3 (K : PySem.W.Frag) : GS := gRet (gIf (gB (g2 goEqA (gV 0) (gC (.str "row")))) (gLst (gCons (gC (.str "at")) (gCons (gC (.str "into")) (gCons (gC (.str "out")) (gCons (gC (.str "find")) gNil))))) (gLst (gCons (gC (.str "set")) (gCons (gC (.str "get")) (gCons (gC (.str "drop")) (gCons (gC (.str "next")) gNil))))))
def g_l_words_3 (K : PySem.W.Frag) : GS := gSeq (gIfS (gB (g2 goEqA (gV 0) (gC (.str "set")))) (gRet (gLst (gCons (gC (.str "put")) (gCons (gC (.str "take")) (gCons (gC (.str "has")) (gCons (gC (.str "next")) (gCons (gC (.str "rank")) gNil))))))) (gNext)) (af1_l_words_3 K)
theorem h_l_words_3 {K : PySem.W.Frag} : ∀ ds M Q X, (fs_l_words_3 K) ds M Q X → ds.length = ([.v] : List AK).length → g_l_words_3 K { nx := fun _ M' => Q .non M', rt := Q } (entry 1 [.v] ds X) M := by
  rintro ds M Q X ⟨so, rfl, q⟩ -
  cases so
  case set =>
    wp_walk using g_l_words_3, So.s
    exact q
  case row =>
    wp_walk using g_l_words_3, So.s, af1_l_words_3
    rw [if_neg (by decide)]
    exact q
  case map =>
    wp_walk using g_l_words_3, So.s, af1_l_words_3
    rw [if_neg (by decide), if_neg (by decide)]
    exact q
theorem goIn_strsK {neg : Bool} {d : D} {ws : List PySem.Str} {M : Mem} {Q : D → Mem → Prop} (hd : d.da = true) (ho : d.ok = true) (hw : D.ok (.lst (ws.map .str)) = true) (q : Q (.bl (xor neg (hasS ws d))) M) : goIn neg d (.lst (ws.map .str)) M Q :=
  ⟨⟨ho, hw⟩, by rw [eqv_strs hd]; exact q⟩
theorem okL_kinds (so : So) : D.ok (.lst ((kindsW so).map .str)) = true := by cases so <;> decide +kernel
theorem okL_words (so : So) : D.ok (.lst ((wordsW so).map .str)) = true := by cases so <;> decide +kernel
/-- what is due -/
def dueK (a b c d : D) (r : PySem.Str) : Prop := (isSort a = false ∧ r = "sort") ∨ ∃ so : So, a = .str so.s ∧ ((hasS (kindsW so) b = false ∧ r = "kind") ∨ (hasS (kindsW so) b = true ∧ (((hasS (wordsW so) c = false ∨ sizeB d 40 = false) ∧ r = "deed") ∨ (hasS (wordsW so) c = true ∧ sizeB d 40 = true ∧ r = "none"))))
structure Ok4 (a b c d : D) : Prop where
  ha : a.da = true
  ao : a.ok = true
  hb : b.da = true
  bo : b.ok = true
  hc : c.da = true
  co : c.ok = true
  hd : d.da = true
def fs_l_due_10 (K : PySem.W.Frag) : FS := fun ds M Q _ => ∃ a b c d : D, ds = [a, b, c, d] ∧ Ok4 a b c d ∧ ∀ r, dueK a b c d r → Q (.str r) M
theorem mo_l_due_10 {K : PySem.W.Frag} : MonoF (fs_l_due_10 K) := fun _ _ _ _ _ _ h _ ⟨a, b, c, d, e, o, q⟩ => ⟨a, b, c, d, e, o, fun r z => h _ _ (q r z)⟩
/-- _law_due -/
def af1_l_due_10 (K : PySem.W.Frag) : GS := gRet (gIf (gAnd (gB (g2 (goIn false) (gV 2) (gCallP (fs_l_words_3 K) (gCons (gV 0) gNil)))) (gTru (gCallP (fs_l_is_size K) (gCons (gV 3) (gCons (gC (.int 40)) gNil))))) (gC (.str "none")) (gC (.str "deed")))
def af2_l_due_10 (K : PySem.W.Frag) : GS := gSeq (gIfS (gB (g2 (goIn true) (gV 1) (gCallP (fs_l_all_kinds K) (gCons (gV 0) gNil)))) (gRet (gC (.str "kind"))) (gNext)) (af1_l_due_10 K)
def g_l_due_10 (K : PySem.W.Frag) : GS := gSeq (gIfS (gB (g2 (goIn true) (gV 0) (gLst (gCons (gC (.str "set")) (gCons (gC (.str "row")) (gCons (gC (.str "map")) gNil)))))) (gRet (gC (.str "sort"))) (gNext)) (af2_l_due_10 K)
theorem h_l_due_10 {K : PySem.W.Frag} : ∀ ds M Q X, (fs_l_due_10 K) ds M Q X → ds.length = ([.v, .v, .v, .v] : List AK).length → g_l_due_10 K { nx := fun _ M' => Q .non M', rt := Q } (entry 4 [.v, .v, .v, .v] ds X) M := by
  rintro ds M Q X ⟨a, b, c, d, rfl, o, q⟩ -
  wp_walk using g_l_due_10
  refine goIn_strsK (ws := ["set", "row", "map"]) o.ha o.ao (by decide +kernel) ?_
  rw [show hasS ["set", "row", "map"] a = isSort a by cases a <;> rfl]
  cases h1 : isSort a
  · wp_walk
    exact q _ (.inl ⟨h1, rfl⟩)
  obtain ⟨so, rfl⟩ := isSort_iff h1
  wp_walk using af2_l_due_10
  refine ⟨so, rfl, goIn_strsK o.hb o.bo (okL_kinds so) ?_⟩
  cases h2 : hasS (kindsW so) b
  · wp_walk
    exact q _ (.inr ⟨so, rfl, .inl ⟨h2, rfl⟩⟩)
  wp_walk using af1_l_due_10
  refine ⟨so, rfl, goIn_strsK o.hc o.co (okL_words so) ?_⟩
  cases h3 : hasS (wordsW so) c
  · wp_walk
    exact q _ (.inr ⟨so, rfl, .inr ⟨h2, .inl ⟨.inl h3, rfl⟩⟩⟩)
  wp_walk
  refine ⟨d, _, rfl, o.hd, ?_⟩
  cases h4 : sizeB d 40
  · wp_walk
    exact q _ (.inr ⟨so, rfl, .inr ⟨h2, .inl ⟨.inr h4, rfl⟩⟩⟩)
  · wp_walk
    exact q _ (.inr ⟨so, rfl, .inr ⟨h2, .inr ⟨h3, h4, rfl⟩⟩⟩)
def fs_l_refusal (K : PySem.W.Frag) (tl : LmT) : FS := fun ds M Q _ => ds = [] ∧ tl M (fun _ M' => Q (.str "none") M') (fun C M' => ∃ x z : PySem.Str, C = He.ga K x ∧ (x, z) ∈ excW ∧ ∀ M'', (∀ b, M' b ≠ none → M'' b = M' b) → Q (.str z) M'')
theorem mo_l_refusal {K : PySem.W.Frag} : ∀ tl, MonoT tl → MonoF (fs_l_refusal K tl) := fun tl hm ds M Q Q' X X' h hx ⟨e, q⟩ => ⟨e, hm _ _ _ _ _ (fun d M1 q1 => h _ _ q1) (fun C M' ⟨x, z, e, hx, q1⟩ => ⟨x, z, e, hx, fun M'' f => h _ _ (q1 M'' f)⟩) q⟩
/-- _law_refusal -/
def af1_l_refusal (K : PySem.W.Frag) (lm : Lm) : GS := gRet (g2 goIx (gV 4) (gIdx (gV 3) (gC (.bl true))))
def af2_l_refusal (K : PySem.W.Frag) (lm : Lm) : GS := gSeq (gSet 3 (gLst (gCons (gCa (gcIsX [(He.ga K "NoChoice", .ref (He.ga K "NoSort"), false), (He.ga K "NoCosts", .ref (He.ga K "NoSort"), false), (He.ga K "NoDeed", .ref (He.ga K "NoSort"), false), (He.ga K "NoKind", .ref (He.ga K "NoSort"), false), (He.ga K "NoProgram", .ref (He.ga K "NoSort"), false), (He.ga K "NoRow", .ref (He.ga K "NoSort"), false), (He.ga K "NoRun", .ref (He.ga K "NoSort"), false), (He.ga K "NoShelf", .ref (He.ga K "NoSort"), false), (He.ga K "NoSort", .ref (He.ga K "NoSort"), true), (He.ga K "NoText", .ref (He.ga K "NoSort"), false), (He.ga K "NoThings", .ref (He.ga K "NoSort"), false), (He.ga K "TooMany", .ref (He.ga K "NoSort"), false)]) (gCons (gV 1) (gCons (gC (.ref (He.ga K "NoSort"))) gNil))) (gCons (gCa (gcIsX [(He.ga K "NoChoice", .ref (He.ga K "NoThings"), false), (He.ga K "NoCosts", .ref (He.ga K "NoThings"), false), (He.ga K "NoDeed", .ref (He.ga K "NoThings"), false), (He.ga K "NoKind", .ref (He.ga K "NoThings"), false), (He.ga K "NoProgram", .ref (He.ga K "NoThings"), false), (He.ga K "NoRow", .ref (He.ga K "NoThings"), false), (He.ga K "NoRun", .ref (He.ga K "NoThings"), false), (He.ga K "NoShelf", .ref (He.ga K "NoThings"), false), (He.ga K "NoSort", .ref (He.ga K "NoThings"), false), (He.ga K "NoText", .ref (He.ga K "NoThings"), false), (He.ga K "NoThings", .ref (He.ga K "NoThings"), true), (He.ga K "TooMany", .ref (He.ga K "NoThings"), false)]) (gCons (gV 1) (gCons (gC (.ref (He.ga K "NoThings"))) gNil))) (gCons (gCa (gcIsX [(He.ga K "NoChoice", .ref (He.ga K "NoDeed"), false), (He.ga K "NoCosts", .ref (He.ga K "NoDeed"), false), (He.ga K "NoDeed", .ref (He.ga K "NoDeed"), true), (He.ga K "NoKind", .ref (He.ga K "NoDeed"), false), (He.ga K "NoProgram", .ref (He.ga K "NoDeed"), false), (He.ga K "NoRow", .ref (He.ga K "NoDeed"), false), (He.ga K "NoRun", .ref (He.ga K "NoDeed"), false), (He.ga K "NoShelf", .ref (He.ga K "NoDeed"), false), (He.ga K "NoSort", .ref (He.ga K "NoDeed"), false), (He.ga K "NoText", .ref (He.ga K "NoDeed"), false), (He.ga K "NoThings", .ref (He.ga K "NoDeed"), false), (He.ga K "TooMany", .ref (He.ga K "NoDeed"), false)]) (gCons (gV 1) (gCons (gC (.ref (He.ga K "NoDeed"))) gNil))) gNil))))) (gSeq (gSet 3 (g2 goAdd (gV 3) (gLst (gCons (gCa (gcIsX [(He.ga K "NoChoice", .ref (He.ga K "NoKind"), false), (He.ga K "NoCosts", .ref (He.ga K "NoKind"), false), (He.ga K "NoDeed", .ref (He.ga K "NoKind"), false), (He.ga K "NoKind", .ref (He.ga K "NoKind"), true), (He.ga K "NoProgram", .ref (He.ga K "NoKind"), false), (He.ga K "NoRow", .ref (He.ga K "NoKind"), false), (He.ga K "NoRun", .ref (He.ga K "NoKind"), false), (He.ga K "NoShelf", .ref (He.ga K "NoKind"), false), (He.ga K "NoSort", .ref (He.ga K "NoKind"), false), (He.ga K "NoText", .ref (He.ga K "NoKind"), false), (He.ga K "NoThings", .ref (He.ga K "NoKind"), false), (He.ga K "TooMany", .ref (He.ga K "NoKind"), false)]) (gCons (gV 1) (gCons (gC (.ref (He.ga K "NoKind"))) gNil))) (gCons (gCa (gcIsX [(He.ga K "NoChoice", .ref (He.ga K "TooMany"), false), (He.ga K "NoCosts", .ref (He.ga K "TooMany"), false), (He.ga K "NoDeed", .ref (He.ga K "TooMany"), false), (He.ga K "NoKind", .ref (He.ga K "TooMany"), false), (He.ga K "NoProgram", .ref (He.ga K "TooMany"), false), (He.ga K "NoRow", .ref (He.ga K "TooMany"), false), (He.ga K "NoRun", .ref (He.ga K "TooMany"), false), (He.ga K "NoShelf", .ref (He.ga K "TooMany"), false), (He.ga K "NoSort", .ref (He.ga K "TooMany"), false), (He.ga K "NoText", .ref (He.ga K "TooMany"), false), (He.ga K "NoThings", .ref (He.ga K "TooMany"), false), (He.ga K "TooMany", .ref (He.ga K "TooMany"), true)]) (gCons (gV 1) (gCons (gC (.ref (He.ga K "TooMany"))) gNil))) (gCons (gCa (gcIsX [(He.ga K "NoChoice", .ref (He.ga K "NoProgram"), false), (He.ga K "NoCosts", .ref (He.ga K "NoProgram"), false), (He.ga K "NoDeed", .ref (He.ga K "NoProgram"), false), (He.ga K "NoKind", .ref (He.ga K "NoProgram"), false), (He.ga K "NoProgram", .ref (He.ga K "NoProgram"), true), (He.ga K "NoRow", .ref (He.ga K "NoProgram"), false), (He.ga K "NoRun", .ref (He.ga K "NoProgram"), false), (He.ga K "NoShelf", .ref (He.ga K "NoProgram"), false), (He.ga K "NoSort", .ref (He.ga K "NoProgram"), false), (He.ga K "NoText", .ref (He.ga K "NoProgram"), false), (He.ga K "NoThings", .ref (He.ga K "NoProgram"), false), (He.ga K "TooMany", .ref (He.ga K "NoProgram"), false)]) (gCons (gV 1) (gCons (gC (.ref (He.ga K "NoProgram"))) gNil))) gNil)))))) (gSeq (gSet 3 (g2 goAdd (gV 3) (gLst (gCons (gCa (gcIsX [(He.ga K "NoChoice", .ref (He.ga K "NoText"), false), (He.ga K "NoCosts", .ref (He.ga K "NoText"), false), (He.ga K "NoDeed", .ref (He.ga K "NoText"), false), (He.ga K "NoKind", .ref (He.ga K "NoText"), false), (He.ga K "NoProgram", .ref (He.ga K "NoText"), false), (He.ga K "NoRow", .ref (He.ga K "NoText"), false), (He.ga K "NoRun", .ref (He.ga K "NoText"), false), (He.ga K "NoShelf", .ref (He.ga K "NoText"), false), (He.ga K "NoSort", .ref (He.ga K "NoText"), false), (He.ga K "NoText", .ref (He.ga K "NoText"), true), (He.ga K "NoThings", .ref (He.ga K "NoText"), false), (He.ga K "TooMany", .ref (He.ga K "NoText"), false)]) (gCons (gV 1) (gCons (gC (.ref (He.ga K "NoText"))) gNil))) (gCons (gCa (gcIsX [(He.ga K "NoChoice", .ref (He.ga K "NoRun"), false), (He.ga K "NoCosts", .ref (He.ga K "NoRun"), false), (He.ga K "NoDeed", .ref (He.ga K "NoRun"), false), (He.ga K "NoKind", .ref (He.ga K "NoRun"), false), (He.ga K "NoProgram", .ref (He.ga K "NoRun"), false), (He.ga K "NoRow", .ref (He.ga K "NoRun"), false), (He.ga K "NoRun", .ref (He.ga K "NoRun"), true), (He.ga K "NoShelf", .ref (He.ga K "NoRun"), false), (He.ga K "NoSort", .ref (He.ga K "NoRun"), false), (He.ga K "NoText", .ref (He.ga K "NoRun"), false), (He.ga K "NoThings", .ref (He.ga K "NoRun"), false), (He.ga K "TooMany", .ref (He.ga K "NoRun"), false)]) (gCons (gV 1) (gCons (gC (.ref (He.ga K "NoRun"))) gNil))) (gCons (gCa (gcIsX [(He.ga K "NoChoice", .ref (He.ga K "NoCosts"), false), (He.ga K "NoCosts", .ref (He.ga K "NoCosts"), true), (He.ga K "NoDeed", .ref (He.ga K "NoCosts"), false), (He.ga K "NoKind", .ref (He.ga K "NoCosts"), false), (He.ga K "NoProgram", .ref (He.ga K "NoCosts"), false), (He.ga K "NoRow", .ref (He.ga K "NoCosts"), false), (He.ga K "NoRun", .ref (He.ga K "NoCosts"), false), (He.ga K "NoShelf", .ref (He.ga K "NoCosts"), false), (He.ga K "NoSort", .ref (He.ga K "NoCosts"), false), (He.ga K "NoText", .ref (He.ga K "NoCosts"), false), (He.ga K "NoThings", .ref (He.ga K "NoCosts"), false), (He.ga K "TooMany", .ref (He.ga K "NoCosts"), false)]) (gCons (gV 1) (gCons (gC (.ref (He.ga K "NoCosts"))) gNil))) gNil)))))) (gSeq (gSet 3 (g2 goAdd (gV 3) (gLst (gCons (gCa (gcIsX [(He.ga K "NoChoice", .ref (He.ga K "NoChoice"), true), (He.ga K "NoCosts", .ref (He.ga K "NoChoice"), false), (He.ga K "NoDeed", .ref (He.ga K "NoChoice"), false), (He.ga K "NoKind", .ref (He.ga K "NoChoice"), false), (He.ga K "NoProgram", .ref (He.ga K "NoChoice"), false), (He.ga K "NoRow", .ref (He.ga K "NoChoice"), false), (He.ga K "NoRun", .ref (He.ga K "NoChoice"), false), (He.ga K "NoShelf", .ref (He.ga K "NoChoice"), false), (He.ga K "NoSort", .ref (He.ga K "NoChoice"), false), (He.ga K "NoText", .ref (He.ga K "NoChoice"), false), (He.ga K "NoThings", .ref (He.ga K "NoChoice"), false), (He.ga K "TooMany", .ref (He.ga K "NoChoice"), false)]) (gCons (gV 1) (gCons (gC (.ref (He.ga K "NoChoice"))) gNil))) (gCons (gCa (gcIsX [(He.ga K "NoChoice", .ref (He.ga K "NoShelf"), false), (He.ga K "NoCosts", .ref (He.ga K "NoShelf"), false), (He.ga K "NoDeed", .ref (He.ga K "NoShelf"), false), (He.ga K "NoKind", .ref (He.ga K "NoShelf"), false), (He.ga K "NoProgram", .ref (He.ga K "NoShelf"), false), (He.ga K "NoRow", .ref (He.ga K "NoShelf"), false), (He.ga K "NoRun", .ref (He.ga K "NoShelf"), false), (He.ga K "NoShelf", .ref (He.ga K "NoShelf"), true), (He.ga K "NoSort", .ref (He.ga K "NoShelf"), false), (He.ga K "NoText", .ref (He.ga K "NoShelf"), false), (He.ga K "NoThings", .ref (He.ga K "NoShelf"), false), (He.ga K "TooMany", .ref (He.ga K "NoShelf"), false)]) (gCons (gV 1) (gCons (gC (.ref (He.ga K "NoShelf"))) gNil))) (gCons (gCa (gcIsX [(He.ga K "NoChoice", .ref (He.ga K "NoRow"), false), (He.ga K "NoCosts", .ref (He.ga K "NoRow"), false), (He.ga K "NoDeed", .ref (He.ga K "NoRow"), false), (He.ga K "NoKind", .ref (He.ga K "NoRow"), false), (He.ga K "NoProgram", .ref (He.ga K "NoRow"), false), (He.ga K "NoRow", .ref (He.ga K "NoRow"), true), (He.ga K "NoRun", .ref (He.ga K "NoRow"), false), (He.ga K "NoShelf", .ref (He.ga K "NoRow"), false), (He.ga K "NoSort", .ref (He.ga K "NoRow"), false), (He.ga K "NoText", .ref (He.ga K "NoRow"), false), (He.ga K "NoThings", .ref (He.ga K "NoRow"), false), (He.ga K "TooMany", .ref (He.ga K "NoRow"), false)]) (gCons (gV 1) (gCons (gC (.ref (He.ga K "NoRow"))) gNil))) gNil)))))) (gSeq (gSet 4 (gLst (gCons (gC (.str "sort")) (gCons (gC (.str "things")) (gCons (gC (.str "deed")) (gCons (gC (.str "kind")) (gCons (gC (.str "many")) (gCons (gC (.str "program")) (gCons (gC (.str "text")) (gCons (gC (.str "run")) (gCons (gC (.str "costs")) (gCons (gC (.str "choice")) (gCons (gC (.str "shelf")) (gCons (gC (.str "row")) gNil)))))))))))))) (gSeq (gIfS (gOr (gB (g2 goNeA (gCnt (gV 3) (gC (.bl true))) (gC (.int 1)))) (gNot (gTru (gCa (gcIsX [(He.ga K "NoChoice", .ty "ValueError", true), (He.ga K "NoCosts", .ty "ValueError", true), (He.ga K "NoDeed", .ty "ValueError", true), (He.ga K "NoKind", .ty "ValueError", true), (He.ga K "NoProgram", .ty "ValueError", true), (He.ga K "NoRow", .ty "ValueError", true), (He.ga K "NoRun", .ty "ValueError", true), (He.ga K "NoShelf", .ty "ValueError", true), (He.ga K "NoSort", .ty "ValueError", true), (He.ga K "NoText", .ty "ValueError", true), (He.ga K "NoThings", .ty "ValueError", true), (He.ga K "TooMany", .ty "ValueError", true)]) (gCons (gV 1) (gCons (gC (.ty "ValueError")) gNil)))))) (gRet (gC (.str "several"))) (gNext)) (af1_l_refusal K lm))))))
def g_l_refusal (K : PySem.W.Frag) (lm : Lm) : GS := gSeq (gSet 1 (gC .non)) (gSeq (gTryE 1 2 [(He.ga K "NoChoice", true), (He.ga K "NoCosts", true), (He.ga K "NoDeed", true), (He.ga K "NoKind", true), (He.ga K "NoProgram", true), (He.ga K "NoRow", true), (He.ga K "NoRun", true), (He.ga K "NoShelf", true), (He.ga K "NoSort", true), (He.ga K "NoText", true), (He.ga K "NoThings", true), (He.ga K "TooMany", true)] (gxAct 0 lm)) (gSeq (gIfS (gB (g2 (goIsN false) (gV 1) (gC .non))) (gRet (gC (.str "none"))) (gNext)) (af2_l_refusal K lm)))
theorem h_l_refusal {K : PySem.W.Frag} : ∀ lm ds M Q X, MonoT lm.tl → fs_l_refusal K lm.tl ds M Q X → ds.length = ([] : List AK).length → g_l_refusal K lm { nx := fun _ M' => Q .non M', rt := Q } (entryL 5 lm [] ds X) M := by
  rintro lm ds M Q X hm ⟨rfl, q⟩ -
  wp_walk using g_l_refusal
  refine hm _ _ _ _ _ (fun d M' q1 => ?_) (fun C M' ⟨x, z, e, hx, q1⟩ => ?_) q
  · wp_walk
    exact q1
  · subst e
    refine ⟨true, ?_, fun _ a na => ?_, fun z => by cases z⟩
    · simp only [excW, List.mem_cons, List.not_mem_nil, or_false, Prod.mk.injEq] at hx
      rcases hx with ⟨rfl, rfl⟩ | ⟨rfl, rfl⟩ | ⟨rfl, rfl⟩ | ⟨rfl, rfl⟩ | ⟨rfl, rfl⟩ | ⟨rfl, rfl⟩ | ⟨rfl, rfl⟩ | ⟨rfl, rfl⟩ | ⟨rfl, rfl⟩ | ⟨rfl, rfl⟩ | ⟨rfl, rfl⟩ | ⟨rfl, rfl⟩ <;>
        (repeat (first | with_reducible exact List.mem_cons_self .. | apply List.mem_cons_of_mem))
    · have ma : mup M' a (.ho (L2.ExC (.ref (He.ga K x)) a)) a = some (.ho (L2.ExC (.ref (He.ga K x)) a)) := mup_same
      have fr : ∀ b, M' b ≠ none → mup M' a (.ho (L2.ExC (.ref (He.ga K x)) a)) b = M' b := fun b hb => mup_ne fun e => hb (by rw [e]; exact na)
      have q2 := q1 _ fr
      clear q1 fr
      generalize mup M' a (.ho (L2.ExC (.ref (He.ga K x)) a)) = M2 at ma q2 ⊢
      simp only [excW, List.mem_cons, List.not_mem_nil, or_false, Prod.mk.injEq] at hx
      rcases hx with ⟨rfl, rfl⟩ | ⟨rfl, rfl⟩ | ⟨rfl, rfl⟩ | ⟨rfl, rfl⟩ | ⟨rfl, rfl⟩ | ⟨rfl, rfl⟩ | ⟨rfl, rfl⟩ | ⟨rfl, rfl⟩ | ⟨rfl, rfl⟩ | ⟨rfl, rfl⟩ | ⟨rfl, rfl⟩ | ⟨rfl, rfl⟩
      all_goals
        wp_walk using af2_l_refusal
        iterate 12 refine is_of ma (by repeat (first | with_reducible exact List.mem_cons_self .. | apply List.mem_cons_of_mem)) ?_
        wp_walk
        refine ⟨size_of (by omega), ⟨by decide +kernel, by decide +kernel⟩, ?_⟩
        rw [if_pos (by decide +kernel)]
        refine is_of ma (by repeat (first | with_reducible exact List.mem_cons_self .. | apply List.mem_cons_of_mem)) ?_
        wp_walk using af1_l_refusal
        refine ⟨⟨by decide +kernel, by decide +kernel⟩, ?_⟩
        exact q2
def fs_l_by_twos (K : PySem.W.Frag) : FS := fun ds M Q _ => ∃ s : Int, ds = [.int s] ∧ 0 ≤ s ∧ s ≤ 1000 ∧ ∀ xs : List D, (xs.length : Int) = bitI s → Q (.lst xs) M
theorem mo_l_by_twos {K : PySem.W.Frag} : MonoF (fs_l_by_twos K) := fun _ _ _ _ _ _ h _ ⟨s, e, c, c2, q⟩ => ⟨s, e, c, c2, fun xs z => h _ _ (q xs z)⟩
/-- _law_by_twos -/
def lp1_l_by_twos (K : PySem.W.Frag) : GS := gSeq (gApp 1 (g2 goMod (gV 0) (gC (.int 2)))) (gSet 0 (g2 goFdiv (gV 0) (gC (.int 2))))
def af1_l_by_twos (K : PySem.W.Frag) : GS := gFrz 1 (gRet (gV 1))
def g_l_by_twos (K : PySem.W.Frag) : GS := gSeq (gOwn 1 (gFl (gNil))) (gSeq (gWhile (gB (g2 goGt (gV 0) (gC (.int 0)))) (lp1_l_by_twos K)) (af1_l_by_twos K))
theorem bitI_le {s : Int} (h : s ≤ 1000) : bitI s ≤ 10 := by
  unfold bitI bits
  split
  · omega
  · have : s.toNat.log2 < 10 := (Nat.log2_lt (by assumption)).mpr (by omega)
    omega
theorem h_l_by_twos {K : PySem.W.Frag} : ∀ ds M Q X, (fs_l_by_twos K) ds M Q X → ds.length = ([.v] : List AK).length → g_l_by_twos K { nx := fun _ M' => Q .non M', rt := Q } (entry 2 [.v] ds X) M := by
  rintro ds M Q X ⟨s, rfl, h0, h1, q⟩ -
  have hb := bitI_le h1
  wp_walk using g_l_by_twos
  refine ⟨fun m r M' => M' = M ∧ ∃ (s' : Int) (xs : List D), 0 ≤ s' ∧ m = s'.toNat ∧ (xs.length : Int) + bitI s' = bitI s ∧ r = ⟨[.v (.int s'), .o (.lst xs)], X⟩, ⟨_, rfl, s, [], h0, rfl, by simp, rfl⟩, ?_⟩
  rintro m r M' ⟨rfl, s', xs, h0', rfl, e, rfl⟩
  wp_walk
  by_cases hs : 0 < s'
  · rw [if_pos hs]
    have e2 := bitI_half hs
    have e3 := bitI_0 (s := s' / 2)
    wp_walk using lp1_l_by_twos
    refine ⟨size_lt (by omega), cdivW2, (s' / 2).toNat, by omega, s' / 2, xs ++ [.int (s' % 2)], by omega, rfl, ?_, rfl⟩
    rw [List.length_append, List.length_singleton]
    omega
  · rw [if_neg hs]
    have : s' = 0 := by omega
    subst this
    rw [show bitI 0 = 0 from rfl, Int.add_zero] at e
    wp_walk using af1_l_by_twos
    exact q xs e
def fs_l_figures (K : PySem.W.Frag) : FS := fun ds M Q _ => ∃ s : Int, ds = [.int s] ∧ 0 ≤ s ∧ s ≤ 1000 ∧ Q (.int (bitI s)) M
theorem mo_l_figures {K : PySem.W.Frag} : MonoF (fs_l_figures K) := fun _ _ _ _ _ _ h _ ⟨s, e, c, c2, q⟩ => ⟨s, e, c, c2, h _ _ q⟩
/-- _law_figures -/
def g_l_figures (K : PySem.W.Frag) : GS := gRet (gCa gcLen (gCons (gCallP (fs_l_by_twos K) (gCons (gV 0) gNil)) gNil))
theorem h_l_figures {K : PySem.W.Frag} : ∀ ds M Q X, (fs_l_figures K) ds M Q X → ds.length = ([.v] : List AK).length → g_l_figures K { nx := fun _ M' => Q .non M', rt := Q } (entry 1 [.v] ds X) M := by
  rintro ds M Q X ⟨s, rfl, h0, h1, q⟩ -
  wp_walk using g_l_figures
  refine ⟨s, rfl, h0, h1, fun xs e => ?_⟩
  wp_walk
  rw [e]
  exact q
def fs_l_row_worst (K : PySem.W.Frag) : FS := fun ds M Q _ => ∃ (k w : PySem.Str) (s : Int), ds = [.str k, .str w, .int s] ∧ k ∈ kindsW .row ∧ w ∈ wordsW .row ∧ 0 ≤ s ∧ s ≤ 40 ∧ Q (.int (rowW k w s)) M
theorem mo_l_row_worst {K : PySem.W.Frag} : MonoF (fs_l_row_worst K) := fun _ _ _ _ _ _ h _ ⟨k, w, s, e, c, c2, c3, c4, q⟩ => ⟨k, w, s, e, c, c2, c3, c4, h _ _ q⟩
/-- _law_row_worst -/
def af1_l_row_worst (K : PySem.W.Frag) : GS := gRet (g2 goIx (gDispV (gPcons "at" (g2 goAdd (gC (.int 1)) (gCa gcInt (gCons (g2 goGt (gV 2) (gC (.int 0))) gNil))) (gPcons "into" (g2 goAdd (g2 goAdd (gC (.int 2)) (gCa gcMinA (gCons (gV 2) (gCons (gC (.int 8)) gNil)))) (gV 4)) (gPcons "out" (g2 goAdd (g2 goAdd (gC (.int 1)) (gCa gcMinA (gCons (gV 3) (gCons (gC (.int 7)) gNil)))) (gV 4)) (gPnil))))) (gV 1))
def af2_l_row_worst (K : PySem.W.Frag) : GS := gSeq (gIfS (gB (g2 goEqA (gV 0) (gC (.str "chain")))) (gSeq (gSet 5 (g2 goFdiv (g2 goAdd (gV 2) (gC (.int 1))) (gC (.int 2)))) (gRet (g2 goIx (gDispV (gPcons "at" (g2 goAdd (gC (.int 1)) (gV 5)) (gPcons "into" (g2 goAdd (gC (.int 2)) (g2 goFdiv (gV 2) (gC (.int 2)))) (gPcons "out" (g2 goAdd (g2 goAdd (gC (.int 1)) (gCa gcInt (gCons (g2 goGt (gV 2) (gC (.int 0))) gNil))) (gV 5)) (gPnil))))) (gV 1)))) (gNext)) (af1_l_row_worst K)
def af3_l_row_worst (K : PySem.W.Frag) : GS := gSeq (gIfS (gB (g2 goEqA (gV 0) (gC (.str "strip")))) (gRet (g2 goIx (gDispV (gPcons "at" (gC (.int 1)) (gPcons "into" (g2 goAdd (gC (.int 2)) (gV 2)) (gPcons "out" (g2 goAdd (gC (.int 1)) (gV 3)) (gPnil))))) (gV 1))) (gNext)) (af2_l_row_worst K)
def g_l_row_worst (K : PySem.W.Frag) : GS := gSeq (gPar 3 4 (gCons (gCa gcMaxA (gCons (gC (.int 0)) (gCons (g2 goSub (gV 2) (gC (.int 1))) gNil))) (gCons (gCa gcMaxA (gCons (gC (.int 0)) (gCons (g2 goSub (g2 goFdiv (g2 goAdd (gV 2) (gC (.int 7))) (gC (.int 8))) (gC (.int 1))) gNil))) gNil))) (gSeq (gIfS (gB (g2 goEqA (gV 1) (gC (.str "find")))) (gRet (g2 goAdd (gC (.int 1)) (gV 2))) (gNext)) (af3_l_row_worst K))
theorem h_l_row_worst {K : PySem.W.Frag} : ∀ ds M Q X, (fs_l_row_worst K) ds M Q X → ds.length = ([.v, .v, .v] : List AK).length → g_l_row_worst K { nx := fun _ M' => Q .non M', rt := Q } (entry 6 [.v, .v, .v] ds X) M := by
  rintro ds M Q X ⟨k, w, s, rfl, hk, hw, h0, h1, q⟩ -
  have hw2 : w = "at" ∨ w = "into" ∨ w = "out" ∨ w = "find" := by simpa [wordsW] using hw
  have hk2 : k = "strip" ∨ k = "chain" ∨ k = "blocks" := by simpa [kindsW] using hk
  wp_walk using g_l_row_worst
  refine ⟨cdivW8, ?_⟩
  unfold rowW at q
  rcases hw2 with rfl | rfl | rfl | rfl
  case inr.inr.inr =>
    rw [if_pos rfl] at q ⊢
    exact q
  all_goals
    rw [if_neg (by decide)] at q ⊢
    rcases hk2 with rfl | rfl | rfl
    all_goals
      wp_walk using af3_l_row_worst, af2_l_row_worst, af1_l_row_worst
      try rw [if_neg (by decide)]
      try rw [if_neg (by decide)]
      try refine ⟨cdivW2, cdivW2, ?_⟩
      refine ⟨_, _, rfl, rfl, ?_⟩
      unfold chainW blocksW stripW at q
      repeat (first | rw [if_pos rfl] at q | rw [if_neg (by decide)] at q)
      refine cast ?_ q
      (congr 2) <;> first | rfl | omega | ((repeat' split) <;> omega)
def fs_l_found_2 (K : PySem.W.Frag) : FS := fun ds M Q _ => ∃ (k : PySem.Str) (s : Int), ds = [.str k, .int s] ∧ 0 ≤ s ∧ s ≤ 40 ∧ Q (.int (if k = "line" then 1 + bitI s + (if 0 < s then 1 else 0) else 1 + bitI ((s + 7) / 8) + bitI (min s 8) + (if 0 < s then 1 else 0))) M
theorem mo_l_found_2 {K : PySem.W.Frag} : MonoF (fs_l_found_2 K) := fun _ _ _ _ _ _ h _ ⟨k, s, e, c3, c4, q⟩ => ⟨k, s, e, c3, c4, h _ _ q⟩
/-- _law_found -/
def af1_l_found_2 (K : PySem.W.Frag) : GS := gRet (g2 goAdd (g2 goAdd (g2 goAdd (gC (.int 1)) (gCallP (fs_l_figures K) (gCons (g2 goFdiv (g2 goAdd (gV 1) (gC (.int 7))) (gC (.int 8))) gNil))) (gCallP (fs_l_figures K) (gCons (gCa gcMinA (gCons (gV 1) (gCons (gC (.int 8)) gNil))) gNil))) (gCa gcInt (gCons (g2 goGt (gV 1) (gC (.int 0))) gNil)))
def g_l_found_2 (K : PySem.W.Frag) : GS := gSeq (gIfS (gB (g2 goEqA (gV 0) (gC (.str "line")))) (gRet (g2 goAdd (g2 goAdd (gC (.int 1)) (gCallP (fs_l_figures K) (gCons (gV 1) gNil))) (gCa gcInt (gCons (g2 goGt (gV 1) (gC (.int 0))) gNil)))) (gNext)) (af1_l_found_2 K)
theorem h_l_found_2 {K : PySem.W.Frag} : ∀ ds M Q X, (fs_l_found_2 K) ds M Q X → ds.length = ([.v, .v] : List AK).length → g_l_found_2 K { nx := fun _ M' => Q .non M', rt := Q } (entry 2 [.v, .v] ds X) M := by
  rintro ds M Q X ⟨k, s, rfl, h0, h1, q⟩ -
  wp_walk using g_l_found_2
  by_cases hk : k = "line"
  · rw [if_pos hk] at q ⊢
    refine ⟨s, rfl, h0, by omega, ?_⟩
    wp_walk
    exact q
  · rw [if_neg hk] at q ⊢
    wp_walk using af1_l_found_2
    refine ⟨cdivW8, (s + 7) / 8, rfl, by omega, by omega, ?_⟩
    wp_walk
    refine ⟨_, rfl, by omega, by omega, ?_⟩
    wp_walk
    exact q
def fs_l_set_worst (K : PySem.W.Frag) : FS := fun ds M Q _ => ∃ (k w : PySem.Str) (s : Int), ds = [.str k, .str w, .int s] ∧ k ∈ kindsW .set ∧ w ∈ wordsW .set ∧ 0 ≤ s ∧ s ≤ 40 ∧ Q (.int (setW k w s)) M
theorem mo_l_set_worst {K : PySem.W.Frag} : MonoF (fs_l_set_worst K) := fun _ _ _ _ _ _ h _ ⟨k, w, s, e, c, c2, c3, c4, q⟩ => ⟨k, w, s, e, c, c2, c3, c4, h _ _ q⟩
/-- _law_set_worst -/
def af1_l_set_worst (K : PySem.W.Frag) : GS := gRet (g2 goAdd (gV 4) (gDGet2 (gV 5) (gV 1) (gC (.int 0))))
def af2_l_set_worst (K : PySem.W.Frag) : GS := gSeq (gSet 5 (gDispV (gPcons "put" (g2 goAdd (gC (.int 1)) (gV 2)) (gPcons "take" (gV 3) (gPnil))))) (gSeq (gIfS (gB (g2 goEqA (gV 0) (gC (.str "tiers")))) (gSeq (gSet 6 (gCa gcMaxA (gCons (gC (.int 0)) (gCons (g2 goSub (g2 goFdiv (g2 goAdd (gV 2) (gC (.int 7))) (gC (.int 8))) (gC (.int 1))) gNil)))) (gSet 5 (gDispV (gPcons "put" (g2 goAdd (g2 goAdd (gC (.int 1)) (gCa gcMinA (gCons (gV 2) (gCons (gC (.int 8)) gNil)))) (gV 6)) (gPcons "take" (g2 goAdd (gCa gcMinA (gCons (gV 3) (gCons (gC (.int 7)) gNil))) (gV 6)) (gPnil)))))) (gNext)) (af1_l_set_worst K))
def cu1_l_set_worst (K : PySem.W.Frag) : GS := gSeq (gIfS (gB (g2 goEqA (gV 1) (gC (.str "rank")))) (gRet (g2 goSub (gV 4) (gCa gcInt (gCons (g2 goGt (gV 2) (gC (.int 0))) gNil)))) (gNext)) (af2_l_set_worst K)
def af3_l_set_worst (K : PySem.W.Frag) : GS := gRet (g2 goAdd (g2 goAdd (gC (.int 1)) (gV 2)) (gCa gcInt (gCons (g2 goEqA (gV 1) (gC (.str "put"))) gNil)))
def af4_l_set_worst (K : PySem.W.Frag) : GS := gSeq (gIfS (gB (g2 goEqA (gV 0) (gC (.str "tree")))) (gRet (g2 goIx (gDispV (gPcons "put" (g2 goAdd (gC (.int 2)) (g2 goMulI (gC (.int 2)) (gV 2))) (gPcons "take" (g2 goAdd (g2 goAdd (gC (.int 1)) (gV 2)) (gV 3)) (gPcons "has" (g2 goAdd (gC (.int 1)) (gV 2)) (gPnil))))) (gV 1))) (gNext)) (af3_l_set_worst K)
def af5_l_set_worst (K : PySem.W.Frag) : GS := gSeq (gIfS (gB (g2 (goIn false) (gV 1) (gLst (gCons (gC (.str "next")) (gCons (gC (.str "rank")) gNil))))) (gRet (g2 goAdd (g2 goAdd (gC (.int 1)) (gV 2)) (g2 goMulI (gC (.int 8)) (gCa gcInt (gCons (g2 goEqA (gV 0) (gC (.str "pails"))) gNil))))) (gNext)) (af4_l_set_worst K)
def g_l_set_worst (K : PySem.W.Frag) : GS := gSeq (gSet 3 (gCa gcMaxA (gCons (gC (.int 0)) (gCons (g2 goSub (gV 2) (gC (.int 1))) gNil)))) (gSeq (gIfS (gB (g2 (goIn false) (gV 0) (gLst (gCons (gC (.str "line")) (gCons (gC (.str "tiers")) gNil))))) (gSeq (gSet 4 (gCallP (fs_l_found_2 K) (gCons (gV 0) (gCons (gV 2) gNil)))) (cu1_l_set_worst K)) (gNext)) (af5_l_set_worst K))
theorem nW : (("heap" : PySem.Str) = "pails") = False ∧ (("tree" : PySem.Str) = "pails") = False ∧ (("heap" : PySem.Str) = "tree") = False ∧ (("pails" : PySem.Str) = "tree") = False ∧ (("take" : PySem.Str) = "put") = False ∧ (("has" : PySem.Str) = "put") = False := by decide
theorem okL2 {a b : PySem.Str} (h : D.ok (.lst [.str a, .str b]) = true) (h2 : D.ok (.str w) = true) {neg : Bool} {M : Mem} {Q : D → Mem → Prop} (q : Q (.bl (xor neg (decide (w ∈ [a, b])))) M) : goIn neg (.str w) (.lst [.str a, .str b]) M Q := goIn_strsK (ws := [a, b]) rfl h2 h q
theorem h_l_set_worst {K : PySem.W.Frag} : ∀ ds M Q X, (fs_l_set_worst K) ds M Q X → ds.length = ([.v, .v, .v] : List AK).length → g_l_set_worst K { nx := fun _ M' => Q .non M', rt := Q } (entry 7 [.v, .v, .v] ds X) M := by
  rintro ds M Q X ⟨k, w, s, rfl, hk, hw, h0, h1, q⟩ -
  have hw2 : w = "put" ∨ w = "take" ∨ w = "has" ∨ w = "next" ∨ w = "rank" := by simpa [wordsW] using hw
  have hk2 : k = "heap" ∨ k = "line" ∨ k = "tiers" ∨ k = "pails" ∨ k = "tree" := by simpa [kindsW] using hk
  wp_walk using g_l_set_worst
  refine okL2 (by decide +kernel) (by rcases hk2 with rfl | rfl | rfl | rfl | rfl <;> decide +kernel) ?_
  by_cases hlt : k ∈ (["line", "tiers"] : List PySem.Str)
  · rw [decide_eq_true hlt]
    wp_walk
    refine ⟨k, s, rfl, h0, h1, ?_⟩
    have hk3 : k = "line" ∨ k = "tiers" := by simpa using hlt
    clear hk2 hk hlt
    rcases hk3 with rfl | rfl
    all_goals
      rcases hw2 with rfl | rfl | rfl | rfl | rfl
      all_goals
        wp_walk using cu1_l_set_worst, af2_l_set_worst, af1_l_set_worst
        try simp only [if_neg (show ¬ ("tiers" : PySem.Str) = "line" by decide)]
        try rw [if_neg (by decide)]
        try rw [if_neg (by decide)]
        try refine ⟨cdivW8, ?_⟩
        try change Q (D.int (_ + _)) M
        unfold setW at q
        try unfold lineW at q
        try unfold tiersW at q
        repeat (first | rw [if_pos rfl] at q | rw [if_neg (by decide)] at q)
        refine cast ?_ q
        (congr 2) <;> first | rfl | omega | ((repeat' split) <;> omega)
  · rw [decide_eq_false hlt]
    wp_walk using af5_l_set_worst
    refine okL2 (by decide +kernel) (by rcases hw2 with rfl | rfl | rfl | rfl | rfl <;> decide +kernel) ?_
    have hk3 : k = "heap" ∨ k = "pails" ∨ k = "tree" := by
      simp at hlt
      rcases hk2 with h | h | h | h | h
      · exact .inl h
      · exact absurd h hlt.1
      · exact absurd h hlt.2
      · exact .inr (.inl h)
      · exact .inr (.inr h)
    clear hk2 hk hlt
    by_cases hnr : w ∈ (["next", "rank"] : List PySem.Str)
    · rw [decide_eq_true hnr]
      have hw3 : w = "next" ∨ w = "rank" := by simpa using hnr
      clear hw2 hw hnr
      rcases hk3 with rfl | rfl | rfl
      all_goals
        rcases hw3 with rfl | rfl
        all_goals
          wp_walk
          try simp only [nW, if_false]
          try refine ⟨.inl ⟨by decide, by decide⟩, ?_⟩
          try refine ⟨_, _, rfl, rfl, ?_⟩
          unfold setW at q
          try unfold pailsW at q
          try unfold heapW at q
          try unfold treeW at q
          repeat (first | rw [if_pos rfl] at q | rw [if_neg (by decide)] at q | rw [if_pos (by decide)] at q)
          refine cast ?_ q
          (congr 2) <;> first | rfl | omega | ((repeat' split) <;> omega)
    · rw [decide_eq_false hnr]
      have hw3 : w = "put" ∨ w = "take" ∨ w = "has" := by
        simp at hnr
        rcases hw2 with h | h | h | h | h
        · exact .inl h
        · exact .inr (.inl h)
        · exact .inr (.inr h)
        · exact absurd h hnr.1
        · exact absurd h hnr.2
      clear hw2 hw hnr
      rcases hk3 with rfl | rfl | rfl
      all_goals
        rcases hw3 with rfl | rfl | rfl
        all_goals
          wp_walk using af4_l_set_worst, af3_l_set_worst
          try simp only [nW, if_false]
          try refine ⟨.inl ⟨by decide, by decide⟩, ?_⟩
          try refine ⟨_, _, rfl, rfl, ?_⟩
          unfold setW at q
          try unfold pailsW at q
          try unfold heapW at q
          try unfold treeW at q
          repeat (first | rw [if_pos rfl] at q | rw [if_neg (by decide)] at q | rw [if_pos (by decide)] at q)
          refine cast ?_ q
          (congr 2) <;> first | rfl | omega | ((repeat' split) <;> omega)
def fs_l_worst (K : PySem.W.Frag) : FS := fun ds M Q _ => ∃ (so : So) (k w : PySem.Str) (s : Int), ds = [.str so.s, .str k, .str w, .int s] ∧ k ∈ kindsW so ∧ w ∈ wordsW so ∧ 0 ≤ s ∧ s ≤ 40 ∧ Q (.int (worstW so k w s)) M
theorem mo_l_worst {K : PySem.W.Frag} : MonoF (fs_l_worst K) := fun _ _ _ _ _ _ h _ ⟨so, k, w, s, e, c, c2, c3, c4, q⟩ => ⟨so, k, w, s, e, c, c2, c3, c4, h _ _ q⟩
/-- _law_worst -/
def af1_l_worst (K : PySem.W.Frag) : GS := gSeq (gSet 4 (g2 goIx (gDispV (gPcons "set" (gC (.str "put")) (gPcons "get" (gC (.str "has")) (gPcons "drop" (gC (.str "take")) (gPcons "next" (gC (.str "next")) (gPnil)))))) (gV 2))) (gRet (g2 goAdd (gCallP (fs_l_set_worst K) (gCons (gV 1) (gCons (gV 4) (gCons (gV 3) gNil)))) (gCa gcInt (gCons (g2 goEqA (gV 2) (gC (.str "set"))) gNil))))
def af2_l_worst (K : PySem.W.Frag) : GS := gSeq (gIfS (gB (g2 goEqA (gV 0) (gC (.str "set")))) (gRet (gCallP (fs_l_set_worst K) (gCons (gV 1) (gCons (gV 2) (gCons (gV 3) gNil))))) (gNext)) (af1_l_worst K)
def g_l_worst (K : PySem.W.Frag) : GS := gSeq (gIfS (gB (g2 goEqA (gV 0) (gC (.str "row")))) (gRet (gCallP (fs_l_row_worst K) (gCons (gV 1) (gCons (gV 2) (gCons (gV 3) gNil))))) (gNext)) (af2_l_worst K)
theorem h_l_worst {K : PySem.W.Frag} : ∀ ds M Q X, (fs_l_worst K) ds M Q X → ds.length = ([.v, .v, .v, .v] : List AK).length → g_l_worst K { nx := fun _ M' => Q .non M', rt := Q } (entry 5 [.v, .v, .v, .v] ds X) M := by
  rintro ds M Q X ⟨so, k, w, s, rfl, hk, hw, h0, h1, q⟩ -
  cases so
  case row =>
    wp_walk using g_l_worst, So.s
    exact ⟨k, w, s, rfl, hk, hw, h0, h1, q⟩
  case set =>
    wp_walk using g_l_worst, So.s
    rw [if_neg (by decide)]
    wp_walk using af2_l_worst
    exact ⟨k, w, s, rfl, hk, hw, h0, h1, q⟩
  case map =>
    have q : Q (.int (setW k (keyW w) s + (if w = "set" then 1 else 0))) M := q
    have hw2 : w = "set" ∨ w = "get" ∨ w = "drop" ∨ w = "next" := by simpa [wordsW] using hw
    wp_walk using g_l_worst, So.s
    rw [if_neg (by decide)]
    wp_walk using af2_l_worst
    rw [if_neg (by decide)]
    wp_walk using af1_l_worst
    rcases hw2 with rfl | rfl | rfl | rfl
    · refine ⟨_, _, rfl, rfl, ⟨k, "put", s, rfl, hk, by decide, h0, h1, ?_⟩⟩
      wp_walk
      exact q
    · refine ⟨_, _, rfl, rfl, ⟨k, "has", s, rfl, hk, by decide, h0, h1, ?_⟩⟩
      wp_walk
      rw [if_neg (by decide)] at q ⊢
      exact q
    · refine ⟨_, _, rfl, rfl, ⟨k, "take", s, rfl, hk, by decide, h0, h1, ?_⟩⟩
      wp_walk
      rw [if_neg (by decide)] at q ⊢
      exact q
    · refine ⟨_, _, rfl, rfl, ⟨k, "next", s, rfl, hk, by decide, h0, h1, ?_⟩⟩
      wp_walk
      rw [if_neg (by decide)] at q ⊢
      exact q
def sizesW (w : PySem.Str) (s : Int) : List Int := if w = "into" then [s + 1] else if w ∈ (["put", "set"] : List PySem.Str) then (if s = 0 then [1] else [s, s + 1]) else if w ∈ (["take", "drop", "out"] : List PySem.Str) then (if s = 0 then [0] else [s - 1, s]) else [s]
def wordsA : List PySem.Str := wordsW .set ++ wordsW .row ++ wordsW .map
def fs_l_sizes (K : PySem.W.Frag) : FS := fun ds M Q _ => ∃ (w : PySem.Str) (s : Int), ds = [.str w, .int s] ∧ w ∈ wordsA ∧ 0 ≤ s ∧ s ≤ 39 ∧ Q (.tup ((sizesW w s).map .int)) M
theorem mo_l_sizes {K : PySem.W.Frag} : MonoF (fs_l_sizes K) := fun _ _ _ _ _ _ h _ ⟨w, s, e, c, c2, c3, q⟩ => ⟨w, s, e, c, c2, c3, h _ _ q⟩
/-- _law_sizes -/
def af1_l_sizes (K : PySem.W.Frag) : GS := gRet (gTup (gCons (g2 goAdd (gV 1) (gCa gcInt (gCons (g2 goEqA (gV 0) (gC (.str "into"))) gNil))) gNil))
def af2_l_sizes (K : PySem.W.Frag) : GS := gSeq (gIfS (gB (g2 (goIn false) (gV 0) (gLst (gCons (gC (.str "take")) (gCons (gC (.str "drop")) (gCons (gC (.str "out")) gNil)))))) (gRet (gCa gcTupleS (gCons (gFd (gLc (itsD (fun ds => ds) (gTup (gCons (g2 goSub (gV 1) (gC (.int 1))) (gCons (gV 1) gNil)))) (gtN 2) (gB (g2 goGe (gV 2) (gC (.int 0)))) (gV 2) [2])) gNil))) (gNext)) (af1_l_sizes K)
def g_l_sizes (K : PySem.W.Frag) : GS := gSeq (gIfS (gB (g2 (goIn false) (gV 0) (gLst (gCons (gC (.str "put")) (gCons (gC (.str "set")) gNil))))) (gRet (gCa gcTupleS (gCons (gFd (gLc (itsD (fun ds => ds) (gTup (gCons (gV 1) (gCons (g2 goAdd (gV 1) (gC (.int 1))) gNil)))) (gtN 2) (gB (g2 goGt (gV 2) (gC (.int 0)))) (gV 2) [2])) gNil))) (gNext)) (af2_l_sizes K)
theorem ok_words : ∀ w ∈ wordsA, D.ok (.str w) = true := by decide +kernel
theorem h_l_sizes {K : PySem.W.Frag} : ∀ ds M Q X, (fs_l_sizes K) ds M Q X → ds.length = ([.v, .v] : List AK).length → g_l_sizes K { nx := fun _ M' => Q .non M', rt := Q } (entry 3 [.v, .v] ds X) M := by
  rintro ds M Q X ⟨w, s, rfl, hw, h0, h1, q⟩ -
  have ho := ok_words w hw
  unfold sizesW at q
  wp_walk using g_l_sizes
  refine okL2 (by decide +kernel) ho ?_
  by_cases h2 : w ∈ (["put", "set"] : List PySem.Str)
  · rw [decide_eq_true h2]
    have hi : w ≠ "into" := fun e => by rw [e] at h2; exact absurd h2 (by decide)
    rw [if_neg hi, if_pos h2] at q
    wp_walk
    refine lc_fp (acc := []) (xs := [s, s + 1]) (enc := D.int) (p := fun v => decide (0 < v)) (f := D.int) (fun v hv Q' P' y1 y2 => ?_) (size_of (Nat.le_of_ble_eq_true rfl)) ?_
    · wp_walk
      by_cases h4 : 0 < v
      · rw [if_pos h4]
        exact y1 (decide_eq_true h4)
      · rw [if_neg h4]
        exact y2 (decide_eq_false h4)
    · have e : [s, s + 1].filter (fun v => decide (0 < v)) = if s = 0 then [1] else [s, s + 1] := by
        by_cases h4 : s = 0
        · subst h4; decide
        · rw [if_neg h4, List.filter_cons_of_pos (by simp; omega), List.filter_cons_of_pos (by simp; omega), List.filter_nil]
      rw [e, List.nil_append]
      exact q
  · rw [decide_eq_false h2]
    rw [if_neg h2] at q
    wp_walk using af2_l_sizes
    refine goIn_strsK (ws := ["take", "drop", "out"]) rfl ho (by decide +kernel) ?_
    rw [show hasS ["take", "drop", "out"] (.str w) = decide (w ∈ (["take", "drop", "out"] : List PySem.Str)) from rfl]
    by_cases h3 : w ∈ (["take", "drop", "out"] : List PySem.Str)
    · rw [decide_eq_true h3]
      have hi : w ≠ "into" := fun e => by rw [e] at h3; exact absurd h3 (by decide)
      rw [if_neg hi, if_pos h3] at q
      wp_walk
      refine lc_fp (acc := []) (xs := [s - 1, s]) (enc := D.int) (p := fun v => decide (0 ≤ v)) (f := D.int) (fun v hv Q' P' y1 y2 => ?_) (size_of (Nat.le_of_ble_eq_true rfl)) ?_
      · wp_walk
        by_cases h4 : 0 ≤ v
        · rw [if_pos h4]
          exact y1 (decide_eq_true h4)
        · rw [if_neg h4]
          exact y2 (decide_eq_false h4)
      · have e : [s - 1, s].filter (fun v => decide (0 ≤ v)) = if s = 0 then [0] else [s - 1, s] := by
          by_cases h4 : s = 0
          · subst h4; decide
          · rw [if_neg h4, List.filter_cons_of_pos (by simp; omega), List.filter_cons_of_pos (by simp; omega), List.filter_nil]
        rw [e, List.nil_append]
        exact q
    · rw [decide_eq_false h3]
      rw [if_neg h3] at q
      wp_walk using af1_l_sizes
      by_cases hi : w = "into"
      · rw [if_pos hi] at q ⊢
        exact q
      · rw [if_neg hi] at q ⊢
        rw [Int.add_zero]
        exact q
def fs_l_right_14 (K : PySem.W.Frag) : FS := fun ds M Q _ => ∃ a : Addr, ds = [.ref a] ∧ M a = some .st ∧ M (tP K "_law_right") = some (.tab (lq "_law_right")) ∧ ∀ M', (∀ b, M b ≠ none → M' b = M b) → Q (.bl true) M'
theorem mo_l_right_14 {K : PySem.W.Frag} : MonoF (fs_l_right_14 K) := fun _ _ _ _ _ _ h _ ⟨a, e, c1, c2, q⟩ => ⟨a, e, c1, c2, fun M' f => h _ _ (q M' f)⟩
/-- _law_right -/
def af1_l_right_14 (K : PySem.W.Frag) : GS := gAsg (gFd (gLc (itsD (enumD 0) (gLst (gCons (gV 1) (gCons (gV 2) (gCons (gV 3) (gCons (gV 4) gNil)))))) (gtTup (gtCons (gtN 12) (gtCons (gtN 13) gtNil)) 2) (gYes) (gIf (gB (g2 goEqA (gV 6) (gV 12))) (gV 8) (gV 13)) [12, 13])) (gtLst (gtCons (gtN 1) (gtCons (gtN 2) (gtCons (gtN 3) (gtCons (gtN 4) gtNil)))) 4)
def cu1_l_right_14 (K : PySem.W.Frag) : GS := gSeq (gIfS (gB (g2 goEqA (gV 6) (gC (.int 3)))) (gSet 8 (gCallM (fs_l_pick K) (gCons (gV 0) (gCons (gLst (gCons (g1 guNeg (gC (.int 1))) (gCons (gC (.int 41)) (gCons (gC (.bl true)) (gCons (gC (.bl false)) (gCons (gC .non) (gCons (gC (.str "3")) (gCons (gTup (gCons (gC (.int 3)) gNil)) (gCons (g2 goPow (gC (.int 10)) (gC (.int 30))) (gCons (gC (.int 40)) gNil)))))))))) gNil)))) (gNext)) (af1_l_right_14 K)
def cu2_l_right_14 (K : PySem.W.Frag) : GS := gSeq (gSet 7 (gLst (gCons (gC (.str "set")) (gCons (gC (.str "row")) (gCons (gC (.str "map")) (gCons (gC (.str "heap")) (gCons (gC (.str "chain")) (gCons (gC (.str "put")) (gCons (gC (.str "into")) (gCons (gC (.str "get")) (gCons (gC (.str "")) (gCons (gC .non) (gCons (gC (.int 3)) (gCons (gC (.bl true)) (gCons (gTup (gCons (gC (.str "put")) gNil)) (gCons (gLst (gNil)) gNil)))))))))))))))) (gSeq (gSet 8 (gCallM (fs_l_pick K) (gCons (gV 0) (gCons (gV 7) gNil)))) (cu1_l_right_14 K))
def lp1_l_right_14 (K : PySem.W.Frag) : GS := gSeq (gSet 6 (gCallM (fs_l_take K) (gCons (gV 0) (gCons (gC (.int 4)) gNil)))) (cu2_l_right_14 K)
def cu3_l_right_14 (K : PySem.W.Frag) : GS := gIfS (gB (g2 goNeA (gV 10) (gCa gcReprA (gCons (gCallP (fs_l_worst K) (gCons (gV 1) (gCons (gV 2) (gCons (gV 3) (gCons (gV 4) gNil))))) gNil)))) (gRet (gC (.bl false))) (gNext)
def cu4_l_right_14 (K : PySem.W.Frag) : GS := gRet (g2 goEqA (gV 10) (g2 goMulL (gLst (gCons (gCa gcReprA (gCons (gCallP (fs_l_sizes K) (gCons (gV 3) (gCons (gV 4) gNil))) gNil)) gNil)) (gC (.int 2))))
def af2_l_right_14 (K : PySem.W.Frag) : GS := gSeq (gSet 10 (gFd (gLc (giR1 (gCons (gC (.int 2)) gNil)) (gtN 5) (gYes) (gCa gcReprA (gCons (gCallP (fs_p_sizes K) (gCons (gV 3) (gCons (gV 4) gNil))) gNil)) [5]))) (cu4_l_right_14 K)
def cu5_l_right_14 (K : PySem.W.Frag) : GS := gSeq (gIfS (gOr (gNot (gTru (gCallP (fs_l_is_size K) (gCons (gV 4) (gCons (gC (.int 39)) gNil))))) (gB (g2 (goIn true) (gV 3) (gV 11)))) (gRet (g2 goEqA (gCallL (tP K "_law_right") (lq "_law_right") (fs_l_refusal K) (gCallP (fs_p_sizes K) (gCons (gV 3) (gCons (gV 4) gNil))) (gNil)) (gC (.str "deed")))) (gNext)) (af2_l_right_14 K)
def af3_l_right_14 (K : PySem.W.Frag) : GS := gSeq (gSet 11 (g2 goAdd (g2 goAdd (gCallP (fs_l_words_3 K) (gCons (gC (.str "set")) gNil)) (gCallP (fs_l_words_3 K) (gCons (gC (.str "row")) gNil))) (gCallP (fs_l_words_3 K) (gCons (gC (.str "map")) gNil)))) (cu5_l_right_14 K)
def af4_l_right_14 (K : PySem.W.Frag) : GS := gSeq (gIfS (gB (g2 goEqA (gV 9) (gC (.str "none")))) (gSeq (gSet 10 (gCa gcReprA (gCons (gCallP (fs_p_worst K) (gCons (gV 1) (gCons (gV 2) (gCons (gV 3) (gCons (gV 4) gNil))))) gNil))) (cu3_l_right_14 K)) (gNext)) (af3_l_right_14 K)
def cu6_l_right_14 (K : PySem.W.Frag) : GS := gSeq (gIfS (gB (g2 goNeA (gCallL (tP K "_law_right") (lq "_law_right") (fs_l_refusal K) (gCallP (fs_p_worst K) (gCons (gV 1) (gCons (gV 2) (gCons (gV 3) (gCons (gV 4) gNil))))) (gNil)) (gV 9))) (gRet (gC (.bl false))) (gNext)) (af4_l_right_14 K)
def af5_l_right_14 (K : PySem.W.Frag) : GS := gSeq (gSet 9 (gCallP (fs_l_due_10 K) (gCons (gV 1) (gCons (gV 2) (gCons (gV 3) (gCons (gV 4) gNil)))))) (cu6_l_right_14 K)
def cu7_l_right_14 (K : PySem.W.Frag) : GS := gSeq (gFor (giR1 (gCons (gCallM (fs_l_pick K) (gCons (gV 0) (gCons (gLst (gCons (gC (.int 0)) (gCons (gC (.int 0)) (gCons (gC (.int 1)) (gCons (gC (.int 2)) gNil))))) gNil))) gNil)) (gtN 5) (lp1_l_right_14 K)) (af5_l_right_14 K)
def cu8_l_right_14 (K : PySem.W.Frag) : GS := gSeq (gSet 4 (gCallM (fs_l_pick K) (gCons (gV 0) (gCons (gLst (gCons (gCallM (fs_l_take K) (gCons (gV 0) (gCons (gC (.int 41)) gNil))) (gCons (gCallM (fs_l_take K) (gCons (gV 0) (gCons (gC (.int 10)) gNil))) (gCons (gC (.int 0)) (gCons (gC (.int 1)) (gCons (gC (.int 8)) (gCons (gC (.int 9)) (gCons (gC (.int 40)) gNil)))))))) gNil)))) (cu7_l_right_14 K)
def cu9_l_right_14 (K : PySem.W.Frag) : GS := gSeq (gAsg (gTup (gCons (gCallM (fs_l_pick K) (gCons (gV 0) (gCons (gCallP (fs_l_all_kinds K) (gCons (gV 1) gNil)) gNil))) (gCons (gCallM (fs_l_pick K) (gCons (gV 0) (gCons (gCallP (fs_l_words_3 K) (gCons (gV 1) gNil)) gNil))) gNil))) (gtTup (gtCons (gtN 2) (gtCons (gtN 3) gtNil)) 2)) (cu8_l_right_14 K)
def g_l_right_14 (K : PySem.W.Frag) : GS := gSeq (gSet 1 (gCallM (fs_l_pick K) (gCons (gV 0) (gCons (gLst (gCons (gC (.str "set")) (gCons (gC (.str "row")) (gCons (gC (.str "map")) gNil)))) gNil)))) (cu9_l_right_14 K)
theorem worstW_bnd {so : So} {k w : PySem.Str} {s : Int} (h0 : 0 ≤ s) (h1 : s ≤ 40) : (worstW so k w s).natAbs < 10 ^ 12 := by
  have b1 := bitI_0 (s := s)
  have b2 := bitI_le (s := s) (by omega)
  have b3 := bitI_0 (s := (s + 7) / 8)
  have b4 := bitI_le (s := (s + 7) / 8) (by omega)
  have b5 := bitI_0 (s := min s 8)
  have b6 := bitI_le (s := min s 8) (by omega)
  have hh : ∀ w, 0 ≤ heapW w s ∧ heapW w s ≤ 1000 := fun w => by unfold heapW; split <;> omega
  have hs : ∀ w, 0 ≤ setW k w s ∧ setW k w s ≤ 1000 := fun w => by
    have := hh w
    unfold setW lineW tiersW pailsW treeW
    repeat' split
    all_goals omega
  have hr : 0 ≤ rowW k w s ∧ rowW k w s ≤ 1000 := by
    unfold rowW chainW blocksW stripW
    repeat' split
    all_goals omega
  have e : (10 : Nat) ^ 12 = 1000000000000 := by decide
  rw [e]
  cases so
  · have := hs w
    show (setW k w s).natAbs < _
    omega
  · show (rowW k w s).natAbs < _
    omega
  · have := hs (keyW w)
    show (setW k (keyW w) s + (if w = "set" then 1 else 0)).natAbs < _
    split <;> omega
theorem excW_s : (("NoSort" : PySem.Str), ("sort" : PySem.Str)) ∈ excW := by simp [excW]
theorem excW_k : (("NoKind" : PySem.Str), ("kind" : PySem.Str)) ∈ excW := by simp [excW]
theorem excW_d : (("NoDeed" : PySem.Str), ("deed" : PySem.Str)) ∈ excW := by simp [excW]
theorem So.sInj {s t : So} (h : D.str s.s = .str t.s) : s = t := by cases s <;> cases t <;> first | rfl | exact absurd (D.str.inj h) (by decide)
theorem ref_worst {M : Mem} {a b c d : D} {r : PySem.Str} {sl : List Sl} {ex : Addr → Mem → Prop} {Q : D → Mem → Prop} {X : Addr → Mem → Prop} (o : Ok4 a b c d) (hr : dueK a b c d r)
    (e1 : (lamS sl)[1]? = some (.v a)) (e2 : (lamS sl)[2]? = some (.v b)) (e3 : (lamS sl)[3]? = some (.v c)) (e4 : (lamS sl)[4]? = some (.v d)) (q : ∀ M', (∀ b, M b ≠ none → M' b = M b) → Q (.str r) M') :
    fs_l_refusal K (gLamT (gCallP (fs_p_worst K) (DL.gCons (gV 1) (DL.gCons (gV 2) (DL.gCons (gV 3) (DL.gCons (gV 4) DL.gNil))))) ⟨sl, ex⟩) [] M Q X := by
  refine ⟨rfl, _, fun _ _ h => h, ?_⟩
  unfold gCallP DL.gCons DL.gNil gV
  dsimp only
  rw [e1]
  dsimp only
  rw [e2]
  dsimp only
  rw [e3]
  dsimp only
  rw [e4]
  dsimp only
  refine ⟨a, b, c, d, rfl, o.ha, ⟨o.hb, o.bo⟩, o.hc, o.hd, fun z => ?_, fun so es => ⟨fun z => ?_, fun k ek hk => ⟨fun z => ?_, fun w s ew ed hw h0 h1 => ?_⟩⟩⟩
  · rcases hr with ⟨_, rfl⟩ | ⟨so, rfl, _⟩
    · exact ⟨"NoSort", "sort", rfl, excW_s, q⟩
    · rw [isSort_so] at z
      cases z
  all_goals
    rcases hr with ⟨z', _⟩ | ⟨so', e', hr⟩
    · rw [es, isSort_so] at z'
      cases z'
    obtain rfl := So.sInj (es.symm.trans e')
  · rcases hr with ⟨_, rfl⟩ | ⟨z', _⟩
    · exact ⟨"NoKind", "kind", rfl, excW_k, q⟩
    · rw [z] at z'
      cases z'
  all_goals
    rcases hr with ⟨z', _⟩ | ⟨_, hr⟩
    · rw [ek, show hasS (kindsW so) (.str k) = decide (k ∈ kindsW so) from rfl, decide_eq_true hk] at z'
      cases z'
  · rcases hr with ⟨_, rfl⟩ | ⟨z1, z2, _⟩
    · exact ⟨"NoDeed", "deed", rfl, excW_d, q⟩
    · rw [z1, z2] at z
      rcases z with z | z <;> cases z
  · rcases hr with ⟨z', _⟩ | ⟨_, _, rfl⟩
    · have y1 : hasS (wordsW so) c = true := by rw [ew]; exact decide_eq_true hw
      have y2 : sizeB d 40 = true := by
        rw [ed]
        show (decide (0 ≤ s) && decide (s ≤ 40)) = true
        rw [decide_eq_true h0, decide_eq_true h1]
        rfl
      rw [y1, y2] at z'
      rcases z' with z | z <;> cases z
    · exact q M fun _ _ => rfl
theorem ref_sizes {M : Mem} {c d : D} {sl : List Sl} {ex : Addr → Mem → Prop} {Q : D → Mem → Prop} {X : Addr → Mem → Prop} (hc : c.da = true) (hd : d.da = true) (hn : hasS wordsA c = false ∨ sizeB d 39 = false)
    (e3 : (lamS sl)[3]? = some (.v c)) (e4 : (lamS sl)[4]? = some (.v d)) (q : ∀ M', (∀ b, M b ≠ none → M' b = M b) → Q (.str "deed") M') :
    fs_l_refusal K (gLamT (gCallP (fs_p_sizes K) (DL.gCons (gV 3) (DL.gCons (gV 4) DL.gNil))) ⟨sl, ex⟩) [] M Q X := by
  refine ⟨rfl, _, fun _ _ h => h, ?_⟩
  unfold gCallP DL.gCons DL.gNil gV
  dsimp only
  rw [e3]
  dsimp only
  rw [e4]
  dsimp only
  refine ⟨c, d, rfl, hc, hd, fun _ => ⟨"NoDeed", "deed", rfl, excW_d, q⟩, fun w s ew ed hw h0 h1 => ?_⟩
  have y1 : hasS wordsA c = true := by rw [ew]; exact decide_eq_true hw
  have y2 : sizeB d 39 = true := by
    rw [ed]
    show (decide (0 ≤ s) && decide (s ≤ 39)) = true
    rw [decide_eq_true h0, decide_eq_true h1]
    rfl
  rw [y1, y2] at hn
  rcases hn with z | z <;> cases z
section
variable {a : Addr} {A B C S : D} {r : PySem.Str} {M M1 : Mem} {Q : D → Mem → Prop} {X : Addr → Mem → Prop} {x5 x6 x7 x8 x9 x10 x11 x12 x13 : Sl}
def fr75 (a : Addr) (A B C S : D) (x5 x6 x7 x8 x9 x10 x11 x12 x13 : Sl) (X : Addr → Mem → Prop) : DL.Fr := ⟨[.v (.ref a), .v A, .v B, .v C, .v S, x5, x6, x7, x8, x9, x10, x11, x12, x13], X⟩
theorem r75c (o : Ok4 A B C S) (mt : M (tP K "_law_right") = some (.tab (lq "_law_right"))) (h5 : nof x5 = true) (q : ∀ M', (∀ b, M b ≠ none → M' b = M b) → Q (.bl true) M') : af3_l_right_14 K { nx := fun _ M' => Q .non M', rt := Q } (fr75 a A B C S x5 x6 x7 x8 x9 x10 x11 x12 x13 X) M := by
  unfold fr75
  wp_walk using af3_l_right_14
  refine ⟨.set, rfl, .row, rfl, ?_⟩
  wp_walk
  refine ⟨size_of (Nat.le_of_ble_eq_true rfl), .map, rfl, ?_⟩
  wp_walk
  refine ⟨size_of (Nat.le_of_ble_eq_true rfl), ?_⟩
  rw [← List.map_append, ← List.map_append]
  wp_walk using cu5_l_right_14
  refine ⟨S, _, rfl, o.hd, ?_⟩
  cases hz : sizeB S 39
  · wp_walk
    refine ⟨mt, ref_sizes o.hc o.hd (.inr hz) rfl rfl fun M2 f => ?_⟩
    wp_walk
    exact q M2 f
  wp_walk
  refine goIn_strsK (ws := wordsA) o.hc o.co (by decide +kernel) ?_
  cases hwb : hasS wordsA C
  · wp_walk
    refine ⟨mt, ref_sizes o.hc o.hd (.inl hwb) rfl rfl fun M2 f => ?_⟩
    wp_walk
    exact q M2 f
  obtain ⟨w, rfl, hw⟩ := hasS_iff hwb
  obtain ⟨s, rfl, s0, s1⟩ := sizeB_iff hz
  have hod : Od 13 1 (.tup ((sizesW w s).map .int)) := .tup fun d hd => by
    obtain ⟨n, hn, rfl⟩ := List.mem_map.mp hd
    refine .int (Nat.lt_of_lt_of_le (show n.natAbs < 10 ^ 2 from ?_) (by decide))
    unfold sizesW at hn
    have e : (10 : Nat) ^ 2 = 100 := by decide
    rw [e]
    repeat' split at hn
    all_goals
      simp at hn
      omega
  have hwt : wtD (.tup ((sizesW w s).map .int)) ≤ 300 := by
    have h1 : (sizesW w s).length ≤ 2 := by
      unfold sizesW
      repeat' split
      all_goals simp
    have h2 : ∀ ns : List Int, (∀ n ∈ ns, D.int n ∈ (sizesW w s).map D.int) → wtL (ns.map .int) ≤ ns.length * 128 := by
      intro ns
      induction ns with
      | nil => exact fun _ => Nat.zero_le _
      | cons n ns ih =>
        intro h
        have g : (n : Int).natAbs < 10 ^ 13 := of_decide_eq_true (hod.els _ (h n (List.mem_cons_self ..))).g
        have := wt_int10 g (by decide)
        have := ih fun x hx => h x (List.mem_cons_of_mem _ hx)
        show wtD (.int n) + 1 + wtL (ns.map .int) ≤ (ns.length + 1) * 128
        omega
    rw [wtD_tup]
    have := h2 (sizesW w s) fun n hn => List.mem_map_of_mem hn
    omega
  have rp := hod.rp (by decide) (by decide) (by decide) (Nat.le_trans hwt (by decide))
  have hT : PyData.strOk (D.tup ((sizesW w s).map .int)).pyA.shown = true := gd_sok _ hod.g
  wp_walk using af2_l_right_14
  refine ⟨h5, ?_⟩
  unfold rngD
  refine lc_mp (acc := []) (xs := List.range 2) (enc := fun i : Nat => D.int (0 + i)) (f := fun _ => .str (D.tup ((sizesW w s).map .int)).pyA.shown) (fun i hi Q' q' => ?_) (size_of (Nat.le_of_ble_eq_true rfl)) ?_
  · wp_walk
    refine ⟨_, _, rfl, rfl, rfl, fun z => ?_, fun w' s' e1 e2 _ _ _ => ?_⟩
    · have y2 : sizeB (.int s) 39 = true := hz
      have y1 : hasS (wordsW .set ++ wordsW .row ++ wordsW .map) (.str w) = true := decide_eq_true hw
      rw [y1, y2] at z
      rcases z with z | z <;> cases z
    · cases e1
      cases e2
      exact ⟨rp, q'⟩
  · wp_walk using cu4_l_right_14
    refine ⟨w, s, rfl, hw, s0, s1, ?_⟩
    refine ⟨rp, ?_⟩
    generalize (D.tup ((sizesW w s).map .int)).pyA.shown = T at hT ⊢
    have ok : D.ok (.lst [.str T, .str T]) = true := (ok1_lst (k := 0) fun d hd => by
      simp only [List.mem_cons, List.not_mem_nil, or_false, or_self] at hd
      rw [hd]
      exact ⟨rfl, hT, Nat.le_refl _⟩).ok
    rw [rep_one 2 (D.str T)]
    refine ⟨by decide, ⟨ok, ok⟩, ?_⟩
    have e : (D.lst [.str T, .str T]).eqv (.lst [.str T, .str T]) = true := PySem.SeqAt.eqv_refl _ (PySem.SeqAt.canLay_of_shaped (ok_and ok).2)
    rw [show List.map (fun _ : Nat => D.str T) (List.range 2) = [.str T, .str T] from rfl]
    rw [show List.replicate (Int.toNat 2) (D.str T) = [.str T, .str T] from rfl, e]
    exact q M fun _ _ => rfl
theorem r75b (o : Ok4 A B C S) (hr : dueK A B C S r) (mt : M (tP K "_law_right") = some (.tab (lq "_law_right"))) (h5 : nof x5 = true) (q : ∀ M', (∀ b, M b ≠ none → M' b = M b) → Q (.bl true) M') : cu6_l_right_14 K { nx := fun _ M' => Q .non M', rt := Q } (fr75 a A B C S x5 x6 x7 x8 (.v (.str r)) x10 x11 x12 x13 X) M := by
  have k := fun M1 (f : ∀ b, M b ≠ none → M1 b = M b) x10 => r75c (K := K) (M := M1) (Q := Q) (a := a) (x5 := x5) (x6 := x6) (x7 := x7) (x8 := x8) (x9 := .v (.str r)) (x10 := x10) (x11 := x11) (x12 := x12) (x13 := x13) (X := X) o (by rw [f _ (by rw [mt]; simp), mt]) h5 fun M2 f2 => q M2 fun b hb => by rw [f2 b (by rw [f b hb]; exact hb), f b hb]
  unfold fr75 at k ⊢
  wp_walk using cu6_l_right_14
  refine ⟨mt, ref_worst o hr rfl rfl rfl rfl fun M1 f => ?_⟩
  wp_walk using af4_l_right_14
  by_cases hn : r = "none"
  · rw [if_pos hn]
    obtain ⟨so, kk, w, s, rfl, rfl, rfl, rfl, hk, hw, s0, s1⟩ : ∃ (so : So) (kk w : PySem.Str) (s : Int), A = .str so.s ∧ B = .str kk ∧ C = .str w ∧ S = .int s ∧ kk ∈ kindsW so ∧ w ∈ wordsW so ∧ 0 ≤ s ∧ s ≤ 40 := by
      rcases hr with ⟨_, e⟩ | ⟨so, rfl, ⟨_, e⟩ | ⟨h1, ⟨_, e⟩ | ⟨h2, h3, _⟩⟩⟩
      · rw [hn] at e
        exact absurd e (by decide)
      · rw [hn] at e
        exact absurd e (by decide)
      · rw [hn] at e
        exact absurd e (by decide)
      · obtain ⟨kk, rfl, hk⟩ := hasS_iff h1
        obtain ⟨w, rfl, hw⟩ := hasS_iff h2
        obtain ⟨s, rfl, s0, s1⟩ := sizeB_iff h3
        exact ⟨so, kk, w, s, rfl, rfl, rfl, rfl, hk, hw, s0, s1⟩
    refine ⟨_, _, _, _, rfl, o.ha, ⟨o.hb, o.bo⟩, o.hc, o.hd, fun z => ?_, fun so' e => ?_⟩
    · rw [isSort_so] at z
      cases z
    obtain rfl := So.sInj e
    refine ⟨fun z => ?_, fun k' ek _ => ?_⟩
    · rw [show hasS (kindsW so) (.str kk) = decide (kk ∈ kindsW so) from rfl, decide_eq_true hk] at z
      cases z
    cases ek
    refine ⟨fun z => ?_, fun w' s' ew es _ _ _ => ?_⟩
    · have y1 : hasS (wordsW so) (.str w) = true := decide_eq_true hw
      have y2 : sizeB (.int s) 40 = true := by
        show (decide (0 ≤ s) && decide (s ≤ 40)) = true
        rw [decide_eq_true s0, decide_eq_true s1]
        rfl
      rw [y1, y2] at z
      rcases z with z | z <;> cases z
    cases ew
    cases es
    have rp : Rp 60 16000000 (.int (worstW so kk w s)) := (Od.int (m := 12) (k := 0) (worstW_bnd s0 s1)).rp (by decide) (by decide) (by decide) (Nat.le_trans (wt_int10 (worstW_bnd s0 s1) (by decide)) (by decide))
    wp_walk
    refine ⟨rp, ?_⟩
    wp_walk using cu3_l_right_14
    refine ⟨so, kk, w, s, rfl, hk, hw, s0, s1, ?_⟩
    wp_walk
    refine ⟨rp, ?_⟩
    wp_walk
    exact k M1 f _
  · rw [if_neg hn]
    exact k M1 f _
end
theorem h_l_right_14 {K : PySem.W.Frag} : ∀ ds M Q X, (fs_l_right_14 K) ds M Q X → ds.length = ([.v] : List AK).length → g_l_right_14 K { nx := fun _ M' => Q .non M', rt := Q } (entry 14 [.v] ds X) M := by
  rintro ds M Q X ⟨a, rfl, ms, mt, q⟩ -
  wp_walk using g_l_right_14
  refine pick_of (K := K) ms rfl (Nat.zero_lt_succ _) (Nat.le_of_ble_eq_true rfl) fun z hz => ?_
  obtain ⟨so, rfl⟩ : ∃ so : So, z = .str so.s := by
    simp only [List.mem_cons, List.not_mem_nil, or_false] at hz
    rcases hz with rfl | rfl | rfl
    · exact ⟨.set, rfl⟩
    · exact ⟨.row, rfl⟩
    · exact ⟨.map, rfl⟩
  have okK : ∀ z ∈ (kindsW so).map D.str, z.da = true ∧ z.ok = true := by cases so <;> decide +kernel
  have okW : ∀ z ∈ (wordsW so).map D.str, z.da = true ∧ z.ok = true := by cases so <;> decide +kernel
  have okS : (D.str so.s).ok = true := by cases so <;> decide +kernel
  wp_walk using cu9_l_right_14
  refine ⟨so, rfl, ?_⟩
  wp_walk
  refine pick_of (K := K) ms rfl (by cases so <;> decide) (by cases so <;> decide) fun zk hk => ?_
  refine ⟨so, rfl, ?_⟩
  wp_walk
  refine pick_of (K := K) ms rfl (by cases so <;> decide) (by cases so <;> decide) fun zw hw => ?_
  obtain ⟨hk1, hk2⟩ := okK zk hk
  obtain ⟨hw1, hw2⟩ := okW zw hw
  wp_walk using cu8_l_right_14
  refine take_of (K := K) ms (by omega) (by omega) fun t t0 t1 => ?_
  refine take_of (K := K) ms (by omega) (by omega) fun u u0 u1 => ?_
  refine pick_of (K := K) ms rfl (Nat.zero_lt_succ _) (Nat.le_of_ble_eq_true rfl) fun zs hs => ?_
  have hs1 : zs.da = true := by
    simp only [List.mem_cons, List.not_mem_nil, or_false] at hs
    rcases hs with rfl | rfl | rfl | rfl | rfl | rfl | rfl <;> rfl
  wp_walk using cu7_l_right_14
  refine pick_of (K := K) ms rfl (Nat.zero_lt_succ _) (Nat.le_of_ble_eq_true rfl) fun zn hn => ?_
  obtain ⟨n, rfl, n0, n1⟩ : ∃ n : Int, zn = .int n ∧ 0 ≤ n ∧ n ≤ 2 := by
    simp only [List.mem_cons, List.not_mem_nil, or_false] at hn
    rcases hn with rfl | rfl | rfl | rfl <;> exact ⟨_, rfl, by decide, by decide⟩
  wp_walk
  refine ⟨by omega, ?_⟩
  generalize n.toNat = m
  unfold rngD
  refine loop_rng (fun j r M' => M' = M ∧ ∃ (A B C S : D) (x5 x6 x7 x8 x9 x10 x11 x12 x13 : Sl), Ok4 A B C S ∧ (nof x5 = true ∧ nof x12 = true ∧ nof x13 = true) ∧ r = fr75 a A B C S x5 x6 x7 x8 x9 x10 x11 x12 x13 X) _ ?_ ?_ _ _ ⟨rfl, _, _, _, _, _, _, _, _, _, _, _, _, _, ⟨rfl, okS, hk1, hk2, hw1, hw2, hs1⟩, ⟨rfl, rfl, rfl⟩, rfl⟩
  · rintro r M' ⟨rfl, A, B, C, S, x5, x6, x7, x8, x9, x10, x11, x12, x13, o, hx, rfl⟩
    unfold fr75
    wp_walk using af5_l_right_14
    exact ⟨A, B, C, S, rfl, o, fun r hr => r75b o hr mt hx.1 q⟩
  · rintro j hj r M' ⟨rfl, A, B, C, S, x5, x6, x7, x8, x9, x10, x11, x12, x13, o, hx, rfl⟩ N hN
    unfold fr75 at hN ⊢
    wp_walk using lp1_l_right_14
    refine take_of (K := K) ms (by omega) (by omega) fun t t0 t1 => ?_
    wp_walk using cu2_l_right_14
    refine pick_of (K := K) ms rfl (Nat.zero_lt_succ _) (Nat.le_of_ble_eq_true rfl) fun z hz => ?_
    have okz : z.da = true ∧ z.ok = true := by
      have h : ∀ z ∈ [D.str "set", .str "row", .str "map", .str "heap", .str "chain", .str "put", .str "into", .str "get", .str "", .non, .int 3, .bl true, .tup [.str "put"], .lst []], z.da = true ∧ z.ok = true := by decide +kernel
      exact h z hz
    clear hz
    have ht : t = 0 ∨ t = 1 ∨ t = 2 ∨ t = 3 := by omega
    rcases ht with rfl | rfl | rfl | rfl
    · wp_walk using cu1_l_right_14
      rw [if_neg (by decide)]
      wp_walk using af1_l_right_14
      refine ⟨hx.2, ?_⟩
      wp_walk using lcD, enumD
      rw [if_pos (by decide), if_neg (by decide), if_neg (by decide), if_neg (by decide)]
      exact hN _ _ ⟨rfl, z, B, C, S, _, _, _, _, _, _, _, _, _, ⟨okz.1, okz.2, o.hb, o.bo, o.hc, o.co, o.hd⟩, ⟨rfl, hx.2.1, hx.2.2⟩, rfl⟩
    · wp_walk using cu1_l_right_14
      rw [if_neg (by decide)]
      wp_walk using af1_l_right_14
      refine ⟨hx.2, ?_⟩
      wp_walk using lcD, enumD
      rw [if_neg (by decide), if_pos (by decide), if_neg (by decide), if_neg (by decide)]
      exact hN _ _ ⟨rfl, A, z, C, S, _, _, _, _, _, _, _, _, _, ⟨o.ha, o.ao, okz.1, okz.2, o.hc, o.co, o.hd⟩, ⟨rfl, hx.2.1, hx.2.2⟩, rfl⟩
    · wp_walk using cu1_l_right_14
      rw [if_neg (by decide)]
      wp_walk using af1_l_right_14
      refine ⟨hx.2, ?_⟩
      wp_walk using lcD, enumD
      rw [if_neg (by decide), if_neg (by decide), if_pos (by decide), if_neg (by decide)]
      exact hN _ _ ⟨rfl, A, B, z, S, _, _, _, _, _, _, _, _, _, ⟨o.ha, o.ao, o.hb, o.bo, okz.1, okz.2, o.hd⟩, ⟨rfl, hx.2.1, hx.2.2⟩, rfl⟩
    · wp_walk using cu1_l_right_14
      refine ⟨⟨by decide, by decide, by decide⟩, ?_⟩
      refine pick_of (K := K) ms rfl (Nat.zero_lt_succ _) (Nat.le_of_ble_eq_true rfl) fun z hz => ?_
      have okz : z.da = true := by
        simp only [List.mem_cons, List.not_mem_nil, or_false] at hz
        rcases hz with rfl | rfl | rfl | rfl | rfl | rfl | rfl | rfl | rfl <;> rfl
      wp_walk using af1_l_right_14
      refine ⟨hx.2, ?_⟩
      wp_walk using lcD, enumD
      rw [if_neg (by decide), if_neg (by decide), if_neg (by decide), if_pos (by decide)]
      exact hN _ _ ⟨rfl, A, B, C, z, _, _, _, _, _, _, _, _, _, ⟨o.ha, o.ao, o.hb, o.bo, o.hc, o.co, okz⟩, ⟨rfl, hx.2.1, hx.2.2⟩, rfl⟩
def fs_law_k75 (K : PySem.W.Frag) : FS := fun ds M Q _ => ∃ ns : List Int, ds = [.lst (ns.map .int)] ∧ ns.length ≤ 63 ∧ M (tP K "_law_right") = some (.tab (lq "_law_right")) ∧ ∀ M', Q (.bl true) M'
theorem mo_law_k75 {K : PySem.W.Frag} : MonoF (fs_law_k75 K) := fun _ _ _ _ _ _ h _ ⟨ns, e, c, c2, q⟩ => ⟨ns, e, c, c2, fun M' => h _ _ (q M')⟩
/-- law -/
def lp1_law_k75 (K : PySem.W.Frag) : GS := gIfS (gNot (gTru (gCallM (fs_l_right_14 K) (gCons (gV 1) gNil)))) (gRet (gC (.bl false))) (gNext)
def af1_law_k75 (K : PySem.W.Frag) : GS := gRet (gC (.bl true))
def cu1_law_k75 (K : PySem.W.Frag) : GS := gSeq (gFor (giR1 (gCons (g2 goAdd (gC (.int 10)) (gCa gcMinA (gCons (gLenS 0) (gCons (gC (.int 30)) gNil)))) gNil)) (gtN 2) (lp1_law_k75 K)) (af1_law_k75 K)
def g_law_k75 (K : PySem.W.Frag) : GS := gSeq (gSet 1 (gCallM (fs_l_begun K) (gScr 0))) (cu1_law_k75 K)
theorem h_law_k75 {K : PySem.W.Frag} : ∀ ds M Q X, (fs_law_k75 K) ds M Q X → ds.length = ([.s] : List AK).length → g_law_k75 K { nx := fun _ M' => Q .non M', rt := Q } (entry 3 [.s] ds X) M := by
  rintro ds M Q X ⟨scr, rfl, hl, ht, q⟩ -
  wp_walk using g_law_k75
  refine ⟨scr, rfl, hl, fun a na => ?_⟩
  have ms : mup M a .st a = some .st := mup_same
  have mt : mup M a .st (tP K "_law_right") = some (.tab (lq "_law_right")) := by
    rw [mup_ne fun z => by rw [z, na] at ht; cases ht]
    exact ht
  generalize mup M a .st = M1 at ms mt ⊢
  wp_walk using cu1_law_k75
  refine ⟨by omega, ?_⟩
  unfold rngD
  refine loop_rng (fun j r M' => (∀ b, M1 b ≠ none → M' b = M1 b) ∧ ∃ x2 : Sl, r = ⟨[.s scr, .v (.ref a), x2], X⟩) _ ?_ ?_ _ _ ⟨fun _ _ => rfl, _, rfl⟩
  · rintro r M' ⟨f, x2, rfl⟩
    wp_walk using af1_law_k75
    exact q _
  · rintro j hj r M' ⟨f, x2, rfl⟩ N hN
    wp_walk using lp1_law_k75
    refine ⟨a, rfl, by rw [f _ (by rw [ms]; simp), ms], by rw [f _ (by rw [mt]; simp), mt], fun M2 f2 => ?_⟩
    wp_walk
    exact hN _ _ ⟨fun b hb => by rw [f2 b (by rw [f b hb]; exact hb), f b hb], _, rfl⟩
end LW
namespace LW
open PySem PySem.Spec PySem.W PyProof.Rows L2 DL
def topS (i : Nat) : Stmt := PySem.Challenge.pw_turnshelf_k75_worsts_told.main.body.getD i (.Pass ⟨0, 0, 0, 0⟩)
def ts : List He.Tab := [((fun K => He.ga K "SET_WORDS"), ["put", "take", "has", "next", "rank"]), ((fun K => He.ga K "ROW_WORDS"), ["at", "into", "out", "find"]), ((fun K => He.ga K "MAP_WORDS"), ["set", "get", "drop", "next"]), ((fun K => He.ga K "WORDS"), ["set", "row", "map"]), ((fun K => He.ga K "KINDS"), ["set", "row", "map"])]
def cs : List Ck := [.tab "SET_WORDS" (fun K => [("put", .int 1), ("take", .int 1), ("has", .int 1), ("next", .int 1), ("rank", .int 1)]), .tab "ROW_WORDS" (fun K => [("at", .int 1), ("into", .int 2), ("out", .int 1), ("find", .int 1)]), .tab "MAP_WORDS" (fun K => [("set", .int 2), ("get", .int 1), ("drop", .int 1), ("next", .int 1)]), .tab "WORDS" (fun K => [("set", .ref (He.ga K "SET_WORDS")), ("row", .ref (He.ga K "ROW_WORDS")), ("map", .ref (He.ga K "MAP_WORDS"))]), .tab "KINDS" (fun K => [("set", .tup [.str "heap", .str "line", .str "tiers", .str "pails", .str "tree"]), ("row", .tup [.str "strip", .str "chain", .str "blocks"]), ("map", .tup [.str "heap", .str "line", .str "tiers", .str "pails", .str "tree"])]), .cods ["_law_right"], .exq "NoChoice", .isq "NoChoice" (fun K => .ref (He.ga K "NoSort")) false, .exq "NoCosts", .isq "NoCosts" (fun K => .ref (He.ga K "NoSort")) false, .exq "NoDeed", .isq "NoDeed" (fun K => .ref (He.ga K "NoSort")) false, .exq "NoKind", .isq "NoKind" (fun K => .ref (He.ga K "NoSort")) false, .exq "NoProgram", .isq "NoProgram" (fun K => .ref (He.ga K "NoSort")) false, .exq "NoRow", .isq "NoRow" (fun K => .ref (He.ga K "NoSort")) false, .exq "NoRun", .isq "NoRun" (fun K => .ref (He.ga K "NoSort")) false, .exq "NoShelf", .isq "NoShelf" (fun K => .ref (He.ga K "NoSort")) false, .exq "NoSort", .isq "NoSort" (fun K => .ref (He.ga K "NoSort")) true, .exq "NoText", .isq "NoText" (fun K => .ref (He.ga K "NoSort")) false, .exq "NoThings", .isq "NoThings" (fun K => .ref (He.ga K "NoSort")) false, .exq "TooMany", .isq "TooMany" (fun K => .ref (He.ga K "NoSort")) false, .isq "NoChoice" (fun K => .ref (He.ga K "NoThings")) false, .isq "NoCosts" (fun K => .ref (He.ga K "NoThings")) false, .isq "NoDeed" (fun K => .ref (He.ga K "NoThings")) false, .isq "NoKind" (fun K => .ref (He.ga K "NoThings")) false, .isq "NoProgram" (fun K => .ref (He.ga K "NoThings")) false, .isq "NoRow" (fun K => .ref (He.ga K "NoThings")) false, .isq "NoRun" (fun K => .ref (He.ga K "NoThings")) false, .isq "NoShelf" (fun K => .ref (He.ga K "NoThings")) false, .isq "NoSort" (fun K => .ref (He.ga K "NoThings")) false, .isq "NoText" (fun K => .ref (He.ga K "NoThings")) false, .isq "NoThings" (fun K => .ref (He.ga K "NoThings")) true, .isq "TooMany" (fun K => .ref (He.ga K "NoThings")) false, .isq "NoChoice" (fun K => .ref (He.ga K "NoDeed")) false, .isq "NoCosts" (fun K => .ref (He.ga K "NoDeed")) false, .isq "NoDeed" (fun K => .ref (He.ga K "NoDeed")) true, .isq "NoKind" (fun K => .ref (He.ga K "NoDeed")) false, .isq "NoProgram" (fun K => .ref (He.ga K "NoDeed")) false, .isq "NoRow" (fun K => .ref (He.ga K "NoDeed")) false, .isq "NoRun" (fun K => .ref (He.ga K "NoDeed")) false, .isq "NoShelf" (fun K => .ref (He.ga K "NoDeed")) false, .isq "NoSort" (fun K => .ref (He.ga K "NoDeed")) false, .isq "NoText" (fun K => .ref (He.ga K "NoDeed")) false, .isq "NoThings" (fun K => .ref (He.ga K "NoDeed")) false, .isq "TooMany" (fun K => .ref (He.ga K "NoDeed")) false, .isq "NoChoice" (fun K => .ref (He.ga K "NoKind")) false, .isq "NoCosts" (fun K => .ref (He.ga K "NoKind")) false, .isq "NoDeed" (fun K => .ref (He.ga K "NoKind")) false, .isq "NoKind" (fun K => .ref (He.ga K "NoKind")) true, .isq "NoProgram" (fun K => .ref (He.ga K "NoKind")) false, .isq "NoRow" (fun K => .ref (He.ga K "NoKind")) false, .isq "NoRun" (fun K => .ref (He.ga K "NoKind")) false, .isq "NoShelf" (fun K => .ref (He.ga K "NoKind")) false, .isq "NoSort" (fun K => .ref (He.ga K "NoKind")) false, .isq "NoText" (fun K => .ref (He.ga K "NoKind")) false, .isq "NoThings" (fun K => .ref (He.ga K "NoKind")) false, .isq "TooMany" (fun K => .ref (He.ga K "NoKind")) false, .isq "NoChoice" (fun K => .ref (He.ga K "TooMany")) false, .isq "NoCosts" (fun K => .ref (He.ga K "TooMany")) false, .isq "NoDeed" (fun K => .ref (He.ga K "TooMany")) false, .isq "NoKind" (fun K => .ref (He.ga K "TooMany")) false, .isq "NoProgram" (fun K => .ref (He.ga K "TooMany")) false, .isq "NoRow" (fun K => .ref (He.ga K "TooMany")) false, .isq "NoRun" (fun K => .ref (He.ga K "TooMany")) false, .isq "NoShelf" (fun K => .ref (He.ga K "TooMany")) false, .isq "NoSort" (fun K => .ref (He.ga K "TooMany")) false, .isq "NoText" (fun K => .ref (He.ga K "TooMany")) false, .isq "NoThings" (fun K => .ref (He.ga K "TooMany")) false, .isq "TooMany" (fun K => .ref (He.ga K "TooMany")) true, .isq "NoChoice" (fun K => .ref (He.ga K "NoProgram")) false, .isq "NoCosts" (fun K => .ref (He.ga K "NoProgram")) false, .isq "NoDeed" (fun K => .ref (He.ga K "NoProgram")) false, .isq "NoKind" (fun K => .ref (He.ga K "NoProgram")) false, .isq "NoProgram" (fun K => .ref (He.ga K "NoProgram")) true, .isq "NoRow" (fun K => .ref (He.ga K "NoProgram")) false, .isq "NoRun" (fun K => .ref (He.ga K "NoProgram")) false, .isq "NoShelf" (fun K => .ref (He.ga K "NoProgram")) false, .isq "NoSort" (fun K => .ref (He.ga K "NoProgram")) false, .isq "NoText" (fun K => .ref (He.ga K "NoProgram")) false, .isq "NoThings" (fun K => .ref (He.ga K "NoProgram")) false, .isq "TooMany" (fun K => .ref (He.ga K "NoProgram")) false, .isq "NoChoice" (fun K => .ref (He.ga K "NoText")) false, .isq "NoCosts" (fun K => .ref (He.ga K "NoText")) false, .isq "NoDeed" (fun K => .ref (He.ga K "NoText")) false, .isq "NoKind" (fun K => .ref (He.ga K "NoText")) false, .isq "NoProgram" (fun K => .ref (He.ga K "NoText")) false, .isq "NoRow" (fun K => .ref (He.ga K "NoText")) false, .isq "NoRun" (fun K => .ref (He.ga K "NoText")) false, .isq "NoShelf" (fun K => .ref (He.ga K "NoText")) false, .isq "NoSort" (fun K => .ref (He.ga K "NoText")) false, .isq "NoText" (fun K => .ref (He.ga K "NoText")) true, .isq "NoThings" (fun K => .ref (He.ga K "NoText")) false, .isq "TooMany" (fun K => .ref (He.ga K "NoText")) false, .isq "NoChoice" (fun K => .ref (He.ga K "NoRun")) false, .isq "NoCosts" (fun K => .ref (He.ga K "NoRun")) false, .isq "NoDeed" (fun K => .ref (He.ga K "NoRun")) false, .isq "NoKind" (fun K => .ref (He.ga K "NoRun")) false, .isq "NoProgram" (fun K => .ref (He.ga K "NoRun")) false, .isq "NoRow" (fun K => .ref (He.ga K "NoRun")) false, .isq "NoRun" (fun K => .ref (He.ga K "NoRun")) true, .isq "NoShelf" (fun K => .ref (He.ga K "NoRun")) false, .isq "NoSort" (fun K => .ref (He.ga K "NoRun")) false, .isq "NoText" (fun K => .ref (He.ga K "NoRun")) false, .isq "NoThings" (fun K => .ref (He.ga K "NoRun")) false, .isq "TooMany" (fun K => .ref (He.ga K "NoRun")) false, .isq "NoChoice" (fun K => .ref (He.ga K "NoCosts")) false, .isq "NoCosts" (fun K => .ref (He.ga K "NoCosts")) true, .isq "NoDeed" (fun K => .ref (He.ga K "NoCosts")) false, .isq "NoKind" (fun K => .ref (He.ga K "NoCosts")) false, .isq "NoProgram" (fun K => .ref (He.ga K "NoCosts")) false, .isq "NoRow" (fun K => .ref (He.ga K "NoCosts")) false, .isq "NoRun" (fun K => .ref (He.ga K "NoCosts")) false, .isq "NoShelf" (fun K => .ref (He.ga K "NoCosts")) false, .isq "NoSort" (fun K => .ref (He.ga K "NoCosts")) false, .isq "NoText" (fun K => .ref (He.ga K "NoCosts")) false, .isq "NoThings" (fun K => .ref (He.ga K "NoCosts")) false, .isq "TooMany" (fun K => .ref (He.ga K "NoCosts")) false, .isq "NoChoice" (fun K => .ref (He.ga K "NoChoice")) true, .isq "NoCosts" (fun K => .ref (He.ga K "NoChoice")) false, .isq "NoDeed" (fun K => .ref (He.ga K "NoChoice")) false, .isq "NoKind" (fun K => .ref (He.ga K "NoChoice")) false, .isq "NoProgram" (fun K => .ref (He.ga K "NoChoice")) false, .isq "NoRow" (fun K => .ref (He.ga K "NoChoice")) false, .isq "NoRun" (fun K => .ref (He.ga K "NoChoice")) false, .isq "NoShelf" (fun K => .ref (He.ga K "NoChoice")) false, .isq "NoSort" (fun K => .ref (He.ga K "NoChoice")) false, .isq "NoText" (fun K => .ref (He.ga K "NoChoice")) false, .isq "NoThings" (fun K => .ref (He.ga K "NoChoice")) false, .isq "TooMany" (fun K => .ref (He.ga K "NoChoice")) false, .isq "NoChoice" (fun K => .ref (He.ga K "NoShelf")) false, .isq "NoCosts" (fun K => .ref (He.ga K "NoShelf")) false, .isq "NoDeed" (fun K => .ref (He.ga K "NoShelf")) false, .isq "NoKind" (fun K => .ref (He.ga K "NoShelf")) false, .isq "NoProgram" (fun K => .ref (He.ga K "NoShelf")) false, .isq "NoRow" (fun K => .ref (He.ga K "NoShelf")) false, .isq "NoRun" (fun K => .ref (He.ga K "NoShelf")) false, .isq "NoShelf" (fun K => .ref (He.ga K "NoShelf")) true, .isq "NoSort" (fun K => .ref (He.ga K "NoShelf")) false, .isq "NoText" (fun K => .ref (He.ga K "NoShelf")) false, .isq "NoThings" (fun K => .ref (He.ga K "NoShelf")) false, .isq "TooMany" (fun K => .ref (He.ga K "NoShelf")) false, .isq "NoChoice" (fun K => .ref (He.ga K "NoRow")) false, .isq "NoCosts" (fun K => .ref (He.ga K "NoRow")) false, .isq "NoDeed" (fun K => .ref (He.ga K "NoRow")) false, .isq "NoKind" (fun K => .ref (He.ga K "NoRow")) false, .isq "NoProgram" (fun K => .ref (He.ga K "NoRow")) false, .isq "NoRow" (fun K => .ref (He.ga K "NoRow")) true, .isq "NoRun" (fun K => .ref (He.ga K "NoRow")) false, .isq "NoShelf" (fun K => .ref (He.ga K "NoRow")) false, .isq "NoSort" (fun K => .ref (He.ga K "NoRow")) false, .isq "NoText" (fun K => .ref (He.ga K "NoRow")) false, .isq "NoThings" (fun K => .ref (He.ga K "NoRow")) false, .isq "TooMany" (fun K => .ref (He.ga K "NoRow")) false, .isq "NoChoice" (fun K => .ty "ValueError") true, .isq "NoCosts" (fun K => .ty "ValueError") true, .isq "NoDeed" (fun K => .ty "ValueError") true, .isq "NoKind" (fun K => .ty "ValueError") true, .isq "NoProgram" (fun K => .ty "ValueError") true, .isq "NoRow" (fun K => .ty "ValueError") true, .isq "NoRun" (fun K => .ty "ValueError") true, .isq "NoShelf" (fun K => .ty "ValueError") true, .isq "NoSort" (fun K => .ty "ValueError") true, .isq "NoText" (fun K => .ty "ValueError") true, .isq "NoThings" (fun K => .ty "ValueError") true, .isq "TooMany" (fun K => .ty "ValueError") true]
abbrev xsL : List PySem.Str := ["_law_right"]
def fa : List He.Fa := [.glo "_law_begun", .glo "_law_take", .glo "_law_pick", .glo "_law_all_kinds", .glo "_law_is_size", .glo "_law_words", .glo "_law_due", .glo "_law_refusal", .glo "heap_worst", .glo "halvings", .glo "line_worst", .glo "tiers_of", .glo "tiers_worst", .glo "pails_worst", .glo "tree_worst", .glo "set_worst", .glo "need_sort", .glo "kinds_of", .glo "chain_worst", .glo "blocks_worst", .glo "strip_worst", .glo "row_worst", .glo "words_of", .glo "is_size", .glo "key_word", .glo "worst", .glo "sizes", .glo "_law_row_worst", .glo "_law_by_twos", .glo "_law_figures", .glo "_law_found", .glo "_law_set_worst", .glo "_law_worst", .glo "_law_sizes", .glo "_law_right", .glo "law", .free "ValueError", .free "abs", .free "bool", .free "enumerate", .free "int", .free "isinstance", .free "len", .free "max", .free "min", .free "range", .free "repr", .free "str", .free "tuple", .int "MOST_SIZE" 40, .int "PER_TIER" 8, .glo "SET_WORDS", .glo "ROW_WORDS", .glo "MAP_WORDS", .glo "WORDS", .glo "KINDS", .glo "NoDeed", .exc "NoDeed", .glo "NoKind", .exc "NoKind", .glo "NoSort", .exc "NoSort", .glo "ShelfError", .exm "NoChoice" "ShelfError" true, .exm "NoCosts" "ShelfError" true, .exm "NoDeed" "ShelfError" true, .exm "NoKind" "ShelfError" true, .exm "NoProgram" "ShelfError" true, .exm "NoRow" "ShelfError" true, .exm "NoRun" "ShelfError" true, .exm "NoShelf" "ShelfError" true, .exm "NoSort" "ShelfError" true, .exm "NoText" "ShelfError" true, .exm "NoThings" "ShelfError" true, .exm "TooMany" "ShelfError" true, .glo "NoThings", .glo "TooMany", .glo "NoProgram", .glo "NoText", .glo "NoRun", .glo "NoCosts", .glo "NoChoice", .glo "NoShelf", .glo "NoRow"]
def fn : List He.DefD := [⟨("_law_begun", none), "_law_begun", "_law_begun", defArgs (topS 45), defBody (topS 45), defScope (topS 45), [], []⟩,
  ⟨("_law_take", none), "_law_take", "_law_take", defArgs (topS 46), defBody (topS 46), defScope (topS 46), [], []⟩,
  ⟨("_law_pick", none), "_law_pick", "_law_pick", defArgs (topS 47), defBody (topS 47), defScope (topS 47), [], []⟩,
  ⟨("_law_all_kinds", none), "_law_all_kinds", "_law_all_kinds", defArgs (topS 56), defBody (topS 56), defScope (topS 56), [], []⟩,
  ⟨("_law_is_size", none), "_law_is_size", "_law_is_size", defArgs (topS 57), defBody (topS 57), defScope (topS 57), [], []⟩,
  ⟨("_law_words", none), "_law_words", "_law_words", defArgs (topS 55), defBody (topS 55), defScope (topS 55), [], []⟩,
  ⟨("_law_due", none), "_law_due", "_law_due", defArgs (topS 58), defBody (topS 58), defScope (topS 58), [], []⟩,
  ⟨("_law_refusal", none), "_law_refusal", "_law_refusal", defArgs (topS 59), defBody (topS 59), defScope (topS 59), [], []⟩,
  ⟨("heap_worst", none), "heap_worst", "heap_worst", defArgs (topS 30), defBody (topS 30), defScope (topS 30), [], []⟩,
  ⟨("halvings", none), "halvings", "halvings", defArgs (topS 28), defBody (topS 28), defScope (topS 28), [], []⟩,
  ⟨("line_worst", none), "line_worst", "line_worst", defArgs (topS 31), defBody (topS 31), defScope (topS 31), [], []⟩,
  ⟨("tiers_of", none), "tiers_of", "tiers_of", defArgs (topS 29), defBody (topS 29), defScope (topS 29), [], []⟩,
  ⟨("tiers_worst", none), "tiers_worst", "tiers_worst", defArgs (topS 32), defBody (topS 32), defScope (topS 32), [], []⟩,
  ⟨("pails_worst", none), "pails_worst", "pails_worst", defArgs (topS 33), defBody (topS 33), defScope (topS 33), [], []⟩,
  ⟨("tree_worst", none), "tree_worst", "tree_worst", defArgs (topS 34), defBody (topS 34), defScope (topS 34), [], []⟩,
  ⟨("set_worst", none), "set_worst", "set_worst", defArgs (topS 35), defBody (topS 35), defScope (topS 35), [], []⟩,
  ⟨("need_sort", none), "need_sort", "need_sort", defArgs (topS 19), defBody (topS 19), defScope (topS 19), [], []⟩,
  ⟨("kinds_of", none), "kinds_of", "kinds_of", defArgs (topS 23), defBody (topS 23), defScope (topS 23), [], []⟩,
  ⟨("chain_worst", none), "chain_worst", "chain_worst", defArgs (topS 37), defBody (topS 37), defScope (topS 37), [], []⟩,
  ⟨("blocks_worst", none), "blocks_worst", "blocks_worst", defArgs (topS 38), defBody (topS 38), defScope (topS 38), [], []⟩,
  ⟨("strip_worst", none), "strip_worst", "strip_worst", defArgs (topS 36), defBody (topS 36), defScope (topS 36), [], []⟩,
  ⟨("row_worst", none), "row_worst", "row_worst", defArgs (topS 39), defBody (topS 39), defScope (topS 39), [], []⟩,
  ⟨("words_of", none), "words_of", "words_of", defArgs (topS 40), defBody (topS 40), defScope (topS 40), [], []⟩,
  ⟨("is_size", none), "is_size", "is_size", defArgs (topS 27), defBody (topS 27), defScope (topS 27), [], []⟩,
  ⟨("key_word", none), "key_word", "key_word", defArgs (topS 41), defBody (topS 41), defScope (topS 41), [], []⟩,
  ⟨("worst", none), "worst", "worst", defArgs (topS 42), defBody (topS 42), defScope (topS 42), [], []⟩,
  ⟨("sizes", none), "sizes", "sizes", defArgs (topS 43), defBody (topS 43), defScope (topS 43), [], []⟩,
  ⟨("_law_row_worst", none), "_law_row_worst", "_law_row_worst", defArgs (topS 52), defBody (topS 52), defScope (topS 52), [], []⟩,
  ⟨("_law_by_twos", none), "_law_by_twos", "_law_by_twos", defArgs (topS 49), defBody (topS 49), defScope (topS 49), [], []⟩,
  ⟨("_law_figures", none), "_law_figures", "_law_figures", defArgs (topS 48), defBody (topS 48), defScope (topS 48), [], []⟩,
  ⟨("_law_found", none), "_law_found", "_law_found", defArgs (topS 50), defBody (topS 50), defScope (topS 50), [], []⟩,
  ⟨("_law_set_worst", none), "_law_set_worst", "_law_set_worst", defArgs (topS 51), defBody (topS 51), defScope (topS 51), [], []⟩,
  ⟨("_law_worst", none), "_law_worst", "_law_worst", defArgs (topS 53), defBody (topS 53), defScope (topS 53), [], []⟩,
  ⟨("_law_sizes", none), "_law_sizes", "_law_sizes", defArgs (topS 54), defBody (topS 54), defScope (topS 54), [], []⟩,
  ⟨("_law_right", none), "_law_right", "_law_right", defArgs (topS 60), defBody (topS 60), defScope (topS 60), [], []⟩,
  ⟨("law", none), "law", "law", defArgs (topS 61), defBody (topS 61), defScope (topS 61), [], []⟩]
section
variable {P : Program} {w : World} {K : PySem.W.Frag} {mg : Str → Option Value} {base : Heap}
abbrev st_l_begun : Stmt := topS 45
abbrev nm_l_begun : List PySem.Str := ["_law_script", "_law_cell"]
theorem sc_l_begun : FnScope nm_l_begun ["_law_script"] (defScope st_l_begun) := ⟨rfl, rfl, rfl, by decide +kernel, rfl, by decide +kernel, by decide +kernel⟩
theorem ok_l_begun (T : WorC fa fn ts cs w K mg) : Def P w K mg base 1 "_law_begun" ["_law_script"] [.s] (fs_l_begun K) :=
  (T.def_ 0 (g := g_l_begun K) sc_l_begun (hbd := fun _ _ _ _ _ _ us hl => match us, hl with | [_], _ => rfl) (hmo := mo_l_begun)
    (hbody := fun f cdv A outer s H E hr hgd => dss_one (ds_retM (p := true) (df_disp (dps_cons ((df_comp (own := [("_law_cell", 1)]) rfl sc_l_begun.nd (di_scr 0) (blkOk_by (N := nm_l_begun) (sc := defScope st_l_begun) (by decide +kernel)) (fun _ _ _ _ _ => dt_name 1 sc_l_begun.nd) (fun _ _ _ _ _ => dtts_nil) (fun _ _ _ _ _ => de_callB ca_abs (by rfl) (T.free 37) (by decide +kernel) (da_one (de_var 1)))).de) (dps_cons (de_int) (dps_cons (de_int) (dps_cons (de_int) (dps_cons (de_add (de_int) (de_lenS 0 (by rfl) (T.free 42))) (dps_nil)))))))))
    (hfs := h_l_begun)).begun
abbrev st_l_take : Stmt := topS 46
abbrev nm_l_take : List PySem.Str := ["_law_state", "_law_many", "_law_cells", "_law_found_here", "_law_cell"]
theorem sc_l_take : FnScope nm_l_take ["_law_state", "_law_many"] (defScope st_l_take) := ⟨rfl, rfl, rfl, by decide +kernel, rfl, by decide +kernel, by decide +kernel⟩
theorem ok_l_take (T : WorC fa fn ts cs w K mg) : Def P w K mg base 1 "_law_take" ["_law_state", "_law_many"] [.v, .v] (fs_l_take K) :=
  (T.def_ 1 (g := g_l_take K) sc_l_take (hbd := fun _ _ _ _ _ _ us hl => match us, hl with | [_, _], _ => rfl) (hmo := mo_l_take)
    (hbody := fun f cdv A outer s H E hr hgd => dss_cons (ds_set (p := true) 2 sc_l_take.nd (de_mget (hu_ hr) (de_var 0) (de_str)))
    (dss_cons (ds_while (p := true) (passes_of rfl) ((dw_and (dt_cmp (od_ltA (hu_ (n := 0) hr)) (de_mget (hu_ hr) (de_var 0) (de_str)) (de_int)) (dw_and1 (dt_cmp (od_ltA (hu_ (n := 0) hr)) (de_mget (hu_ hr) (de_var 0) (de_str)) (de_callB ca_len (by rfl) (T.free 42) (by decide +kernel) (da_one (de_var 2)))))).dt) (dss_cons (ds_if (p := true) (dt_cmp od_ge (de_ix (hu_ hr) (de_var 2) (de_mget (hu_ hr) (de_var 0) (de_str))) (de_op od_pow (de_int) (de_int))) (dss_one (ds_mput (p := true) (hu_ hr) (de_var 0) (de_str) (de_ix (hu_ hr) (de_var 2) (de_mget (hu_ hr) (de_var 0) (de_str))))) (dss_nil))
    (dss_one (ds_mput (p := true) (hu_ hr) (de_var 0) (de_str) (de_add (de_mget (hu_ hr) (de_var 0) (de_str)) (de_int))))))
    (dss_cons (ds_if (p := true) (dt_cmp od_gt (de_mget (hu_ hr) (de_var 0) (de_str)) (de_int)) (dss_cons (ds_set (p := true) 3 sc_l_take.nd (de_op od_mod (de_mget (hu_ hr) (de_var 0) (de_str)) (de_var 1)))
    (dss_cons (ds_mput (p := true) (hu_ hr) (de_var 0) (de_str) (de_op od_fdiv (de_mget (hu_ hr) (de_var 0) (de_str)) (de_var 1)))
    (dss_one (ds_ret (p := true) (de_var 3))))) (dss_nil))
    (dss_cons (ds_set (p := true) 4 sc_l_take.nd (de_int))
    (dss_cons (ds_if (p := true) (dt_cmp od_gt (de_callB ca_len (by rfl) (T.free 42) (by decide +kernel) (da_one (de_var 2))) (de_int)) (dss_one (ds_set (p := true) 4 sc_l_take.nd (de_ix (hu_ hr) (de_var 2) (de_op od_mod (de_mget (hu_ hr) (de_var 0) (de_str)) (de_callB ca_len (by rfl) (T.free 42) (by decide +kernel) (da_one (de_var 2))))))) (dss_nil))
    (dss_cons (ds_mput (p := true) (hu_ hr) (de_var 0) (de_str) (de_add (de_mget (hu_ hr) (de_var 0) (de_str)) (de_int)))
    (dss_cons (ds_mput (p := true) (hu_ hr) (de_var 0) (de_str) (de_op od_mod (de_add (de_add (de_op od_mulI (de_mget (hu_ hr) (de_var 0) (de_str)) (de_int)) (de_var 4)) (de_mget (hu_ hr) (de_var 0) (de_str))) (de_int)))
    (dss_one (ds_ret (p := true) (de_op od_mod (de_op od_mod (de_add (de_op od_mulI (de_mget (hu_ hr) (de_var 0) (de_str)) (de_mget (hu_ hr) (de_var 0) (de_str))) (de_op od_mulI (de_int) (de_mget (hu_ hr) (de_var 0) (de_str)))) (de_int)) (de_var 1)))))))))))
    (hfs := h_l_take)).draw
abbrev st_l_pick : Stmt := topS 47
abbrev nm_l_pick : List PySem.Str := ["_law_state", "_law_some"]
theorem sc_l_pick : FnScope nm_l_pick ["_law_state", "_law_some"] (defScope st_l_pick) := ⟨rfl, rfl, rfl, by decide +kernel, rfl, by decide +kernel, by decide +kernel⟩
theorem ok_l_pick (T : WorC fa fn ts cs w K mg) : Def P w K mg base 2 "_law_pick" ["_law_state", "_law_some"] [.v, .v] (fs_l_pick K) :=
  T.def_ 2 (g := g_l_pick K) sc_l_pick (hbd := fun _ _ _ _ _ _ us hl => match us, hl with | [_, _], _ => rfl) (hmo := mo_l_pick)
    (hbody := fun f cdv A outer s H E hr hgd => dss_one (ds_ret (p := false) (de_ix (hu_ hr) (de_var 1) (dc_m ((ok_l_take T)) hr hgd (dak_cons (k := .v) (de_var 0) (dak_one (k := .v) (de_callB ca_len (by rfl) (T.free 42) (by decide +kernel) (da_one (de_var 1)))))))))
    (hfs := h_l_pick)
abbrev st_l_all_kinds : Stmt := topS 56
abbrev nm_l_all_kinds : List PySem.Str := ["_law_sort"]
theorem sc_l_all_kinds : FnScope nm_l_all_kinds ["_law_sort"] (defScope st_l_all_kinds) := ⟨rfl, rfl, rfl, by decide +kernel, rfl, by decide +kernel, by decide +kernel⟩
theorem ok_l_all_kinds (T : WorC fa fn ts cs w K mg) : Def P w K mg base 1 "_law_all_kinds" ["_law_sort"] [.v] (fs_l_all_kinds K) :=
  T.def_ 3 (g := g_l_all_kinds K) sc_l_all_kinds (hbd := fun _ _ _ _ _ _ us hl => match us, hl with | [_], _ => rfl) (hmo := mo_l_all_kinds)
    (hbody := fun f cdv A outer s H E hr hgd => dss_one (ds_ret (p := true) (de_if (dt_cmp (od_eqA (hu_ hr)) (de_var 0) (de_str)) (de_lstN (an_cons (de_str) (an_cons (de_str) (an_cons (de_str) an_nil)))) (de_lstN (an_cons (de_str) (an_cons (de_str) (an_cons (de_str) (an_cons (de_str) (an_cons (de_str) an_nil)))))))))
    (hfs := h_l_all_kinds)
abbrev st_l_is_size : Stmt := topS 57
abbrev nm_l_is_size : List PySem.Str := ["_law_thing", "_law_most"]
theorem sc_l_is_size : FnScope nm_l_is_size ["_law_thing", "_law_most"] (defScope st_l_is_size) := ⟨rfl, rfl, rfl, by decide +kernel, rfl, by decide +kernel, by decide +kernel⟩
theorem ok_l_is_size (T : WorC fa fn ts cs w K mg) : Def P w K mg base 1 "_law_is_size" ["_law_thing", "_law_most"] [.v, .v] (fs_l_is_size K) :=
  T.def_ 4 (g := g_l_is_size K) sc_l_is_size (hbd := fun _ _ _ _ _ _ us hl => match us, hl with | [_, _], _ => rfl) (hmo := mo_l_is_size)
    (hbody := fun f cdv A outer s H E hr hgd => dss_one (ds_ret (p := true) (de_and (de_callB ca_isi (by rfl) (T.free 41) (by decide +kernel) (da_cons (de_var 0) (da_one (de_ty (by rfl) (T.free 40) (by decide +kernel))))) (de_and (de_not (de_callB ca_isi (by rfl) (T.free 41) (by decide +kernel) (da_cons (de_var 0) (da_one (de_ty (by rfl) (T.free 38) (by decide +kernel)))))) (de_one (de_chain od_le od_le (de_int) (de_var 0) (de_var 1)))))))
    (hfs := h_l_is_size)
abbrev st_l_words_3 : Stmt := topS 55
abbrev nm_l_words_3 : List PySem.Str := ["_law_sort"]
theorem sc_l_words_3 : FnScope nm_l_words_3 ["_law_sort"] (defScope st_l_words_3) := ⟨rfl, rfl, rfl, by decide +kernel, rfl, by decide +kernel, by decide +kernel⟩
theorem ok_l_words_3 (T : WorC fa fn ts cs w K mg) : Def P w K mg base 1 "_law_words" ["_law_sort"] [.v] (fs_l_words_3 K) :=
  T.def_ 5 (g := g_l_words_3 K) sc_l_words_3 (hbd := fun _ _ _ _ _ _ us hl => match us, hl with | [_], _ => rfl) (hmo := mo_l_words_3)
    (hbody := fun f cdv A outer s H E hr hgd => dss_cons (ds_if (p := true) (dt_cmp (od_eqA (hu_ hr)) (de_var 0) (de_str)) (dss_one (ds_ret (p := true) (de_lstN (an_cons (de_str) (an_cons (de_str) (an_cons (de_str) (an_cons (de_str) (an_cons (de_str) an_nil)))))))) (dss_nil))
    (dss_one (ds_ret (p := true) (de_if (dt_cmp (od_eqA (hu_ hr)) (de_var 0) (de_str)) (de_lstN (an_cons (de_str) (an_cons (de_str) (an_cons (de_str) (an_cons (de_str) an_nil))))) (de_lstN (an_cons (de_str) (an_cons (de_str) (an_cons (de_str) (an_cons (de_str) an_nil)))))))))
    (hfs := h_l_words_3)
abbrev st_l_due_10 : Stmt := topS 58
abbrev nm_l_due_10 : List PySem.Str := ["_law_sort", "_law_kind", "_law_word", "_law_size"]
theorem sc_l_due_10 : FnScope nm_l_due_10 ["_law_sort", "_law_kind", "_law_word", "_law_size"] (defScope st_l_due_10) := ⟨rfl, rfl, rfl, by decide +kernel, rfl, by decide +kernel, by decide +kernel⟩
theorem ok_l_due_10 (T : WorC fa fn ts cs w K mg) : Def P w K mg base 2 "_law_due" ["_law_sort", "_law_kind", "_law_word", "_law_size"] [.v, .v, .v, .v] (fs_l_due_10 K) :=
  T.def_ 6 (g := g_l_due_10 K) sc_l_due_10 (hbd := fun _ _ _ _ _ _ us hl => match us, hl with | [_, _, _, _], _ => rfl) (hmo := mo_l_due_10)
    (hbody := fun f cdv A outer s H E hr hgd => dss_cons (ds_if (p := true) (dt_cmp (od_notin (hu_ hr)) (de_var 0) (de_lstN (an_cons (de_str) (an_cons (de_str) (an_cons (de_str) an_nil))))) (dss_one (ds_ret (p := true) (de_str))) (dss_nil))
    (dss_cons (ds_if (p := true) (dt_cmp (od_notin (hu_ hr)) (de_var 1) (dc_p ((ok_l_all_kinds T)) hr hgd (dak_one (k := .v) (de_var 0)))) (dss_one (ds_ret (p := true) (de_str))) (dss_nil))
    (dss_one (ds_ret (p := true) (de_if ((dw_and (dt_cmp (od_in (hu_ hr)) (de_var 2) (dc_p ((ok_l_words_3 T)) hr hgd (dak_one (k := .v) (de_var 0)))) (dw_and1 (dt_tru (dc_p ((ok_l_is_size T)) hr hgd (dak_cons (k := .v) (de_var 3) (dak_one (k := .v) (de_int))))))).dt) (de_str) (de_str))))))
    (hfs := h_l_due_10)
abbrev st_l_refusal : Stmt := topS 59
abbrev nm_l_refusal : List PySem.Str := ["_law_work", "_law_error", "e", "_law_told", "_law_words_here"]
theorem sc_l_refusal : FnScope nm_l_refusal ["_law_work"] (defScope st_l_refusal) := ⟨rfl, rfl, rfl, by decide +kernel, rfl, by decide +kernel, by decide +kernel⟩
theorem ok_l_refusal (T : WorC fa fn ts cs w K mg) : DefL P w K mg base 1 "_law_refusal" "_law_work" [] (fs_l_refusal K) :=
  T.defL_ 7 (a := "_law_work") (ps := []) (g := g_l_refusal K) sc_l_refusal (hbd := fun _ _ _ _ _ _ us hl => match us, hl with | [_], _ => rfl) (hmo := mo_l_refusal)
    (hbody := fun f cdv A outer s H E lm sp hr hgd hmt hp act => dss_cons (ds_set (p := true) 1 sc_l_refusal.nd (de_non))
    (dss_cons (ds_tryE 1 2 rfl rfl rfl sc_l_refusal.nd ⟨by rfl, by decide, .inl (T.glo 62)⟩ (tb_cons (T.exm 63) (tb_cons (T.exm 64) (tb_cons (T.exm 65) (tb_cons (T.exm 66) (tb_cons (T.exm 67) (tb_cons (T.exm 68) (tb_cons (T.exm 69) (tb_cons (T.exm 70) (tb_cons (T.exm 71) (tb_cons (T.exm 72) (tb_cons (T.exm 73) (tb_cons (T.exm 74) tb_nil)))))))))))) (tx_act 0 hmt hp act))
    (dss_cons (ds_if (p := true) (dt_cmp od_isN (de_var 1) (de_non)) (dss_one (ds_ret (p := true) (de_str))) (dss_nil))
    (dss_cons (ds_set (p := true) 3 sc_l_refusal.nd (de_lstN (an_cons (de_callB (ca_isX (tbx_cons (T.exq 6) (by rfl) (T.isq 7 (x := "NoChoice") (c := fun K => .ref (He.ga K "NoSort")) (b := false)) (tbx_cons (T.exq 8) (by rfl) (T.isq 9 (x := "NoCosts") (c := fun K => .ref (He.ga K "NoSort")) (b := false)) (tbx_cons (T.exq 10) (by rfl) (T.isq 11 (x := "NoDeed") (c := fun K => .ref (He.ga K "NoSort")) (b := false)) (tbx_cons (T.exq 12) (by rfl) (T.isq 13 (x := "NoKind") (c := fun K => .ref (He.ga K "NoSort")) (b := false)) (tbx_cons (T.exq 14) (by rfl) (T.isq 15 (x := "NoProgram") (c := fun K => .ref (He.ga K "NoSort")) (b := false)) (tbx_cons (T.exq 16) (by rfl) (T.isq 17 (x := "NoRow") (c := fun K => .ref (He.ga K "NoSort")) (b := false)) (tbx_cons (T.exq 18) (by rfl) (T.isq 19 (x := "NoRun") (c := fun K => .ref (He.ga K "NoSort")) (b := false)) (tbx_cons (T.exq 20) (by rfl) (T.isq 21 (x := "NoShelf") (c := fun K => .ref (He.ga K "NoSort")) (b := false)) (tbx_cons (T.exq 22) (by rfl) (T.isq 23 (x := "NoSort") (c := fun K => .ref (He.ga K "NoSort")) (b := true)) (tbx_cons (T.exq 24) (by rfl) (T.isq 25 (x := "NoText") (c := fun K => .ref (He.ga K "NoSort")) (b := false)) (tbx_cons (T.exq 26) (by rfl) (T.isq 27 (x := "NoThings") (c := fun K => .ref (He.ga K "NoSort")) (b := false)) (tbx_cons (T.exq 28) (by rfl) (T.isq 29 (x := "TooMany") (c := fun K => .ref (He.ga K "NoSort")) (b := false)) tbx_nil))))))))))))) (by rfl) (T.free 41) (by decide +kernel) (da_cons (de_var 1) (da_one (dg_cls (T.glo 60))))) (an_cons (de_callB (ca_isX (tbx_cons (T.exq 6) (by rfl) (T.isq 30 (x := "NoChoice") (c := fun K => .ref (He.ga K "NoThings")) (b := false)) (tbx_cons (T.exq 8) (by rfl) (T.isq 31 (x := "NoCosts") (c := fun K => .ref (He.ga K "NoThings")) (b := false)) (tbx_cons (T.exq 10) (by rfl) (T.isq 32 (x := "NoDeed") (c := fun K => .ref (He.ga K "NoThings")) (b := false)) (tbx_cons (T.exq 12) (by rfl) (T.isq 33 (x := "NoKind") (c := fun K => .ref (He.ga K "NoThings")) (b := false)) (tbx_cons (T.exq 14) (by rfl) (T.isq 34 (x := "NoProgram") (c := fun K => .ref (He.ga K "NoThings")) (b := false)) (tbx_cons (T.exq 16) (by rfl) (T.isq 35 (x := "NoRow") (c := fun K => .ref (He.ga K "NoThings")) (b := false)) (tbx_cons (T.exq 18) (by rfl) (T.isq 36 (x := "NoRun") (c := fun K => .ref (He.ga K "NoThings")) (b := false)) (tbx_cons (T.exq 20) (by rfl) (T.isq 37 (x := "NoShelf") (c := fun K => .ref (He.ga K "NoThings")) (b := false)) (tbx_cons (T.exq 22) (by rfl) (T.isq 38 (x := "NoSort") (c := fun K => .ref (He.ga K "NoThings")) (b := false)) (tbx_cons (T.exq 24) (by rfl) (T.isq 39 (x := "NoText") (c := fun K => .ref (He.ga K "NoThings")) (b := false)) (tbx_cons (T.exq 26) (by rfl) (T.isq 40 (x := "NoThings") (c := fun K => .ref (He.ga K "NoThings")) (b := true)) (tbx_cons (T.exq 28) (by rfl) (T.isq 41 (x := "TooMany") (c := fun K => .ref (He.ga K "NoThings")) (b := false)) tbx_nil))))))))))))) (by rfl) (T.free 41) (by decide +kernel) (da_cons (de_var 1) (da_one (dg_cls (T.glo 75))))) (an_cons (de_callB (ca_isX (tbx_cons (T.exq 6) (by rfl) (T.isq 42 (x := "NoChoice") (c := fun K => .ref (He.ga K "NoDeed")) (b := false)) (tbx_cons (T.exq 8) (by rfl) (T.isq 43 (x := "NoCosts") (c := fun K => .ref (He.ga K "NoDeed")) (b := false)) (tbx_cons (T.exq 10) (by rfl) (T.isq 44 (x := "NoDeed") (c := fun K => .ref (He.ga K "NoDeed")) (b := true)) (tbx_cons (T.exq 12) (by rfl) (T.isq 45 (x := "NoKind") (c := fun K => .ref (He.ga K "NoDeed")) (b := false)) (tbx_cons (T.exq 14) (by rfl) (T.isq 46 (x := "NoProgram") (c := fun K => .ref (He.ga K "NoDeed")) (b := false)) (tbx_cons (T.exq 16) (by rfl) (T.isq 47 (x := "NoRow") (c := fun K => .ref (He.ga K "NoDeed")) (b := false)) (tbx_cons (T.exq 18) (by rfl) (T.isq 48 (x := "NoRun") (c := fun K => .ref (He.ga K "NoDeed")) (b := false)) (tbx_cons (T.exq 20) (by rfl) (T.isq 49 (x := "NoShelf") (c := fun K => .ref (He.ga K "NoDeed")) (b := false)) (tbx_cons (T.exq 22) (by rfl) (T.isq 50 (x := "NoSort") (c := fun K => .ref (He.ga K "NoDeed")) (b := false)) (tbx_cons (T.exq 24) (by rfl) (T.isq 51 (x := "NoText") (c := fun K => .ref (He.ga K "NoDeed")) (b := false)) (tbx_cons (T.exq 26) (by rfl) (T.isq 52 (x := "NoThings") (c := fun K => .ref (He.ga K "NoDeed")) (b := false)) (tbx_cons (T.exq 28) (by rfl) (T.isq 53 (x := "TooMany") (c := fun K => .ref (He.ga K "NoDeed")) (b := false)) tbx_nil))))))))))))) (by rfl) (T.free 41) (by decide +kernel) (da_cons (de_var 1) (da_one (dg_cls (T.glo 56))))) an_nil)))))
    (dss_cons (ds_set (p := true) 3 sc_l_refusal.nd (de_add (de_var 3) (de_lstN (an_cons (de_callB (ca_isX (tbx_cons (T.exq 6) (by rfl) (T.isq 54 (x := "NoChoice") (c := fun K => .ref (He.ga K "NoKind")) (b := false)) (tbx_cons (T.exq 8) (by rfl) (T.isq 55 (x := "NoCosts") (c := fun K => .ref (He.ga K "NoKind")) (b := false)) (tbx_cons (T.exq 10) (by rfl) (T.isq 56 (x := "NoDeed") (c := fun K => .ref (He.ga K "NoKind")) (b := false)) (tbx_cons (T.exq 12) (by rfl) (T.isq 57 (x := "NoKind") (c := fun K => .ref (He.ga K "NoKind")) (b := true)) (tbx_cons (T.exq 14) (by rfl) (T.isq 58 (x := "NoProgram") (c := fun K => .ref (He.ga K "NoKind")) (b := false)) (tbx_cons (T.exq 16) (by rfl) (T.isq 59 (x := "NoRow") (c := fun K => .ref (He.ga K "NoKind")) (b := false)) (tbx_cons (T.exq 18) (by rfl) (T.isq 60 (x := "NoRun") (c := fun K => .ref (He.ga K "NoKind")) (b := false)) (tbx_cons (T.exq 20) (by rfl) (T.isq 61 (x := "NoShelf") (c := fun K => .ref (He.ga K "NoKind")) (b := false)) (tbx_cons (T.exq 22) (by rfl) (T.isq 62 (x := "NoSort") (c := fun K => .ref (He.ga K "NoKind")) (b := false)) (tbx_cons (T.exq 24) (by rfl) (T.isq 63 (x := "NoText") (c := fun K => .ref (He.ga K "NoKind")) (b := false)) (tbx_cons (T.exq 26) (by rfl) (T.isq 64 (x := "NoThings") (c := fun K => .ref (He.ga K "NoKind")) (b := false)) (tbx_cons (T.exq 28) (by rfl) (T.isq 65 (x := "TooMany") (c := fun K => .ref (He.ga K "NoKind")) (b := false)) tbx_nil))))))))))))) (by rfl) (T.free 41) (by decide +kernel) (da_cons (de_var 1) (da_one (dg_cls (T.glo 58))))) (an_cons (de_callB (ca_isX (tbx_cons (T.exq 6) (by rfl) (T.isq 66 (x := "NoChoice") (c := fun K => .ref (He.ga K "TooMany")) (b := false)) (tbx_cons (T.exq 8) (by rfl) (T.isq 67 (x := "NoCosts") (c := fun K => .ref (He.ga K "TooMany")) (b := false)) (tbx_cons (T.exq 10) (by rfl) (T.isq 68 (x := "NoDeed") (c := fun K => .ref (He.ga K "TooMany")) (b := false)) (tbx_cons (T.exq 12) (by rfl) (T.isq 69 (x := "NoKind") (c := fun K => .ref (He.ga K "TooMany")) (b := false)) (tbx_cons (T.exq 14) (by rfl) (T.isq 70 (x := "NoProgram") (c := fun K => .ref (He.ga K "TooMany")) (b := false)) (tbx_cons (T.exq 16) (by rfl) (T.isq 71 (x := "NoRow") (c := fun K => .ref (He.ga K "TooMany")) (b := false)) (tbx_cons (T.exq 18) (by rfl) (T.isq 72 (x := "NoRun") (c := fun K => .ref (He.ga K "TooMany")) (b := false)) (tbx_cons (T.exq 20) (by rfl) (T.isq 73 (x := "NoShelf") (c := fun K => .ref (He.ga K "TooMany")) (b := false)) (tbx_cons (T.exq 22) (by rfl) (T.isq 74 (x := "NoSort") (c := fun K => .ref (He.ga K "TooMany")) (b := false)) (tbx_cons (T.exq 24) (by rfl) (T.isq 75 (x := "NoText") (c := fun K => .ref (He.ga K "TooMany")) (b := false)) (tbx_cons (T.exq 26) (by rfl) (T.isq 76 (x := "NoThings") (c := fun K => .ref (He.ga K "TooMany")) (b := false)) (tbx_cons (T.exq 28) (by rfl) (T.isq 77 (x := "TooMany") (c := fun K => .ref (He.ga K "TooMany")) (b := true)) tbx_nil))))))))))))) (by rfl) (T.free 41) (by decide +kernel) (da_cons (de_var 1) (da_one (dg_cls (T.glo 76))))) (an_cons (de_callB (ca_isX (tbx_cons (T.exq 6) (by rfl) (T.isq 78 (x := "NoChoice") (c := fun K => .ref (He.ga K "NoProgram")) (b := false)) (tbx_cons (T.exq 8) (by rfl) (T.isq 79 (x := "NoCosts") (c := fun K => .ref (He.ga K "NoProgram")) (b := false)) (tbx_cons (T.exq 10) (by rfl) (T.isq 80 (x := "NoDeed") (c := fun K => .ref (He.ga K "NoProgram")) (b := false)) (tbx_cons (T.exq 12) (by rfl) (T.isq 81 (x := "NoKind") (c := fun K => .ref (He.ga K "NoProgram")) (b := false)) (tbx_cons (T.exq 14) (by rfl) (T.isq 82 (x := "NoProgram") (c := fun K => .ref (He.ga K "NoProgram")) (b := true)) (tbx_cons (T.exq 16) (by rfl) (T.isq 83 (x := "NoRow") (c := fun K => .ref (He.ga K "NoProgram")) (b := false)) (tbx_cons (T.exq 18) (by rfl) (T.isq 84 (x := "NoRun") (c := fun K => .ref (He.ga K "NoProgram")) (b := false)) (tbx_cons (T.exq 20) (by rfl) (T.isq 85 (x := "NoShelf") (c := fun K => .ref (He.ga K "NoProgram")) (b := false)) (tbx_cons (T.exq 22) (by rfl) (T.isq 86 (x := "NoSort") (c := fun K => .ref (He.ga K "NoProgram")) (b := false)) (tbx_cons (T.exq 24) (by rfl) (T.isq 87 (x := "NoText") (c := fun K => .ref (He.ga K "NoProgram")) (b := false)) (tbx_cons (T.exq 26) (by rfl) (T.isq 88 (x := "NoThings") (c := fun K => .ref (He.ga K "NoProgram")) (b := false)) (tbx_cons (T.exq 28) (by rfl) (T.isq 89 (x := "TooMany") (c := fun K => .ref (He.ga K "NoProgram")) (b := false)) tbx_nil))))))))))))) (by rfl) (T.free 41) (by decide +kernel) (da_cons (de_var 1) (da_one (dg_cls (T.glo 77))))) an_nil))))))
    (dss_cons (ds_set (p := true) 3 sc_l_refusal.nd (de_add (de_var 3) (de_lstN (an_cons (de_callB (ca_isX (tbx_cons (T.exq 6) (by rfl) (T.isq 90 (x := "NoChoice") (c := fun K => .ref (He.ga K "NoText")) (b := false)) (tbx_cons (T.exq 8) (by rfl) (T.isq 91 (x := "NoCosts") (c := fun K => .ref (He.ga K "NoText")) (b := false)) (tbx_cons (T.exq 10) (by rfl) (T.isq 92 (x := "NoDeed") (c := fun K => .ref (He.ga K "NoText")) (b := false)) (tbx_cons (T.exq 12) (by rfl) (T.isq 93 (x := "NoKind") (c := fun K => .ref (He.ga K "NoText")) (b := false)) (tbx_cons (T.exq 14) (by rfl) (T.isq 94 (x := "NoProgram") (c := fun K => .ref (He.ga K "NoText")) (b := false)) (tbx_cons (T.exq 16) (by rfl) (T.isq 95 (x := "NoRow") (c := fun K => .ref (He.ga K "NoText")) (b := false)) (tbx_cons (T.exq 18) (by rfl) (T.isq 96 (x := "NoRun") (c := fun K => .ref (He.ga K "NoText")) (b := false)) (tbx_cons (T.exq 20) (by rfl) (T.isq 97 (x := "NoShelf") (c := fun K => .ref (He.ga K "NoText")) (b := false)) (tbx_cons (T.exq 22) (by rfl) (T.isq 98 (x := "NoSort") (c := fun K => .ref (He.ga K "NoText")) (b := false)) (tbx_cons (T.exq 24) (by rfl) (T.isq 99 (x := "NoText") (c := fun K => .ref (He.ga K "NoText")) (b := true)) (tbx_cons (T.exq 26) (by rfl) (T.isq 100 (x := "NoThings") (c := fun K => .ref (He.ga K "NoText")) (b := false)) (tbx_cons (T.exq 28) (by rfl) (T.isq 101 (x := "TooMany") (c := fun K => .ref (He.ga K "NoText")) (b := false)) tbx_nil))))))))))))) (by rfl) (T.free 41) (by decide +kernel) (da_cons (de_var 1) (da_one (dg_cls (T.glo 78))))) (an_cons (de_callB (ca_isX (tbx_cons (T.exq 6) (by rfl) (T.isq 102 (x := "NoChoice") (c := fun K => .ref (He.ga K "NoRun")) (b := false)) (tbx_cons (T.exq 8) (by rfl) (T.isq 103 (x := "NoCosts") (c := fun K => .ref (He.ga K "NoRun")) (b := false)) (tbx_cons (T.exq 10) (by rfl) (T.isq 104 (x := "NoDeed") (c := fun K => .ref (He.ga K "NoRun")) (b := false)) (tbx_cons (T.exq 12) (by rfl) (T.isq 105 (x := "NoKind") (c := fun K => .ref (He.ga K "NoRun")) (b := false)) (tbx_cons (T.exq 14) (by rfl) (T.isq 106 (x := "NoProgram") (c := fun K => .ref (He.ga K "NoRun")) (b := false)) (tbx_cons (T.exq 16) (by rfl) (T.isq 107 (x := "NoRow") (c := fun K => .ref (He.ga K "NoRun")) (b := false)) (tbx_cons (T.exq 18) (by rfl) (T.isq 108 (x := "NoRun") (c := fun K => .ref (He.ga K "NoRun")) (b := true)) (tbx_cons (T.exq 20) (by rfl) (T.isq 109 (x := "NoShelf") (c := fun K => .ref (He.ga K "NoRun")) (b := false)) (tbx_cons (T.exq 22) (by rfl) (T.isq 110 (x := "NoSort") (c := fun K => .ref (He.ga K "NoRun")) (b := false)) (tbx_cons (T.exq 24) (by rfl) (T.isq 111 (x := "NoText") (c := fun K => .ref (He.ga K "NoRun")) (b := false)) (tbx_cons (T.exq 26) (by rfl) (T.isq 112 (x := "NoThings") (c := fun K => .ref (He.ga K "NoRun")) (b := false)) (tbx_cons (T.exq 28) (by rfl) (T.isq 113 (x := "TooMany") (c := fun K => .ref (He.ga K "NoRun")) (b := false)) tbx_nil))))))))))))) (by rfl) (T.free 41) (by decide +kernel) (da_cons (de_var 1) (da_one (dg_cls (T.glo 79))))) (an_cons (de_callB (ca_isX (tbx_cons (T.exq 6) (by rfl) (T.isq 114 (x := "NoChoice") (c := fun K => .ref (He.ga K "NoCosts")) (b := false)) (tbx_cons (T.exq 8) (by rfl) (T.isq 115 (x := "NoCosts") (c := fun K => .ref (He.ga K "NoCosts")) (b := true)) (tbx_cons (T.exq 10) (by rfl) (T.isq 116 (x := "NoDeed") (c := fun K => .ref (He.ga K "NoCosts")) (b := false)) (tbx_cons (T.exq 12) (by rfl) (T.isq 117 (x := "NoKind") (c := fun K => .ref (He.ga K "NoCosts")) (b := false)) (tbx_cons (T.exq 14) (by rfl) (T.isq 118 (x := "NoProgram") (c := fun K => .ref (He.ga K "NoCosts")) (b := false)) (tbx_cons (T.exq 16) (by rfl) (T.isq 119 (x := "NoRow") (c := fun K => .ref (He.ga K "NoCosts")) (b := false)) (tbx_cons (T.exq 18) (by rfl) (T.isq 120 (x := "NoRun") (c := fun K => .ref (He.ga K "NoCosts")) (b := false)) (tbx_cons (T.exq 20) (by rfl) (T.isq 121 (x := "NoShelf") (c := fun K => .ref (He.ga K "NoCosts")) (b := false)) (tbx_cons (T.exq 22) (by rfl) (T.isq 122 (x := "NoSort") (c := fun K => .ref (He.ga K "NoCosts")) (b := false)) (tbx_cons (T.exq 24) (by rfl) (T.isq 123 (x := "NoText") (c := fun K => .ref (He.ga K "NoCosts")) (b := false)) (tbx_cons (T.exq 26) (by rfl) (T.isq 124 (x := "NoThings") (c := fun K => .ref (He.ga K "NoCosts")) (b := false)) (tbx_cons (T.exq 28) (by rfl) (T.isq 125 (x := "TooMany") (c := fun K => .ref (He.ga K "NoCosts")) (b := false)) tbx_nil))))))))))))) (by rfl) (T.free 41) (by decide +kernel) (da_cons (de_var 1) (da_one (dg_cls (T.glo 80))))) an_nil))))))
    (dss_cons (ds_set (p := true) 3 sc_l_refusal.nd (de_add (de_var 3) (de_lstN (an_cons (de_callB (ca_isX (tbx_cons (T.exq 6) (by rfl) (T.isq 126 (x := "NoChoice") (c := fun K => .ref (He.ga K "NoChoice")) (b := true)) (tbx_cons (T.exq 8) (by rfl) (T.isq 127 (x := "NoCosts") (c := fun K => .ref (He.ga K "NoChoice")) (b := false)) (tbx_cons (T.exq 10) (by rfl) (T.isq 128 (x := "NoDeed") (c := fun K => .ref (He.ga K "NoChoice")) (b := false)) (tbx_cons (T.exq 12) (by rfl) (T.isq 129 (x := "NoKind") (c := fun K => .ref (He.ga K "NoChoice")) (b := false)) (tbx_cons (T.exq 14) (by rfl) (T.isq 130 (x := "NoProgram") (c := fun K => .ref (He.ga K "NoChoice")) (b := false)) (tbx_cons (T.exq 16) (by rfl) (T.isq 131 (x := "NoRow") (c := fun K => .ref (He.ga K "NoChoice")) (b := false)) (tbx_cons (T.exq 18) (by rfl) (T.isq 132 (x := "NoRun") (c := fun K => .ref (He.ga K "NoChoice")) (b := false)) (tbx_cons (T.exq 20) (by rfl) (T.isq 133 (x := "NoShelf") (c := fun K => .ref (He.ga K "NoChoice")) (b := false)) (tbx_cons (T.exq 22) (by rfl) (T.isq 134 (x := "NoSort") (c := fun K => .ref (He.ga K "NoChoice")) (b := false)) (tbx_cons (T.exq 24) (by rfl) (T.isq 135 (x := "NoText") (c := fun K => .ref (He.ga K "NoChoice")) (b := false)) (tbx_cons (T.exq 26) (by rfl) (T.isq 136 (x := "NoThings") (c := fun K => .ref (He.ga K "NoChoice")) (b := false)) (tbx_cons (T.exq 28) (by rfl) (T.isq 137 (x := "TooMany") (c := fun K => .ref (He.ga K "NoChoice")) (b := false)) tbx_nil))))))))))))) (by rfl) (T.free 41) (by decide +kernel) (da_cons (de_var 1) (da_one (dg_cls (T.glo 81))))) (an_cons (de_callB (ca_isX (tbx_cons (T.exq 6) (by rfl) (T.isq 138 (x := "NoChoice") (c := fun K => .ref (He.ga K "NoShelf")) (b := false)) (tbx_cons (T.exq 8) (by rfl) (T.isq 139 (x := "NoCosts") (c := fun K => .ref (He.ga K "NoShelf")) (b := false)) (tbx_cons (T.exq 10) (by rfl) (T.isq 140 (x := "NoDeed") (c := fun K => .ref (He.ga K "NoShelf")) (b := false)) (tbx_cons (T.exq 12) (by rfl) (T.isq 141 (x := "NoKind") (c := fun K => .ref (He.ga K "NoShelf")) (b := false)) (tbx_cons (T.exq 14) (by rfl) (T.isq 142 (x := "NoProgram") (c := fun K => .ref (He.ga K "NoShelf")) (b := false)) (tbx_cons (T.exq 16) (by rfl) (T.isq 143 (x := "NoRow") (c := fun K => .ref (He.ga K "NoShelf")) (b := false)) (tbx_cons (T.exq 18) (by rfl) (T.isq 144 (x := "NoRun") (c := fun K => .ref (He.ga K "NoShelf")) (b := false)) (tbx_cons (T.exq 20) (by rfl) (T.isq 145 (x := "NoShelf") (c := fun K => .ref (He.ga K "NoShelf")) (b := true)) (tbx_cons (T.exq 22) (by rfl) (T.isq 146 (x := "NoSort") (c := fun K => .ref (He.ga K "NoShelf")) (b := false)) (tbx_cons (T.exq 24) (by rfl) (T.isq 147 (x := "NoText") (c := fun K => .ref (He.ga K "NoShelf")) (b := false)) (tbx_cons (T.exq 26) (by rfl) (T.isq 148 (x := "NoThings") (c := fun K => .ref (He.ga K "NoShelf")) (b := false)) (tbx_cons (T.exq 28) (by rfl) (T.isq 149 (x := "TooMany") (c := fun K => .ref (He.ga K "NoShelf")) (b := false)) tbx_nil))))))))))))) (by rfl) (T.free 41) (by decide +kernel) (da_cons (de_var 1) (da_one (dg_cls (T.glo 82))))) (an_cons (de_callB (ca_isX (tbx_cons (T.exq 6) (by rfl) (T.isq 150 (x := "NoChoice") (c := fun K => .ref (He.ga K "NoRow")) (b := false)) (tbx_cons (T.exq 8) (by rfl) (T.isq 151 (x := "NoCosts") (c := fun K => .ref (He.ga K "NoRow")) (b := false)) (tbx_cons (T.exq 10) (by rfl) (T.isq 152 (x := "NoDeed") (c := fun K => .ref (He.ga K "NoRow")) (b := false)) (tbx_cons (T.exq 12) (by rfl) (T.isq 153 (x := "NoKind") (c := fun K => .ref (He.ga K "NoRow")) (b := false)) (tbx_cons (T.exq 14) (by rfl) (T.isq 154 (x := "NoProgram") (c := fun K => .ref (He.ga K "NoRow")) (b := false)) (tbx_cons (T.exq 16) (by rfl) (T.isq 155 (x := "NoRow") (c := fun K => .ref (He.ga K "NoRow")) (b := true)) (tbx_cons (T.exq 18) (by rfl) (T.isq 156 (x := "NoRun") (c := fun K => .ref (He.ga K "NoRow")) (b := false)) (tbx_cons (T.exq 20) (by rfl) (T.isq 157 (x := "NoShelf") (c := fun K => .ref (He.ga K "NoRow")) (b := false)) (tbx_cons (T.exq 22) (by rfl) (T.isq 158 (x := "NoSort") (c := fun K => .ref (He.ga K "NoRow")) (b := false)) (tbx_cons (T.exq 24) (by rfl) (T.isq 159 (x := "NoText") (c := fun K => .ref (He.ga K "NoRow")) (b := false)) (tbx_cons (T.exq 26) (by rfl) (T.isq 160 (x := "NoThings") (c := fun K => .ref (He.ga K "NoRow")) (b := false)) (tbx_cons (T.exq 28) (by rfl) (T.isq 161 (x := "TooMany") (c := fun K => .ref (He.ga K "NoRow")) (b := false)) tbx_nil))))))))))))) (by rfl) (T.free 41) (by decide +kernel) (da_cons (de_var 1) (da_one (dg_cls (T.glo 83))))) an_nil))))))
    (dss_cons (ds_set (p := true) 4 sc_l_refusal.nd (de_lstN (an_cons (de_str) (an_cons (de_str) (an_cons (de_str) (an_cons (de_str) (an_cons (de_str) (an_cons (de_str) (an_cons (de_str) (an_cons (de_str) (an_cons (de_str) (an_cons (de_str) (an_cons (de_str) (an_cons (de_str) an_nil))))))))))))))
    (dss_cons (ds_if (p := true) ((dw_or (dt_cmp (od_neA (hu_ hr)) (de_count rfl (hu_ hr) (de_var 3) (de_bl)) (de_int)) (dw_or1 (dt_not (dt_tru (de_callB (ca_isX (tbx_cons (T.exq 6) (by rfl) (T.isq 162 (x := "NoChoice") (c := fun K => .ty "ValueError") (b := true)) (tbx_cons (T.exq 8) (by rfl) (T.isq 163 (x := "NoCosts") (c := fun K => .ty "ValueError") (b := true)) (tbx_cons (T.exq 10) (by rfl) (T.isq 164 (x := "NoDeed") (c := fun K => .ty "ValueError") (b := true)) (tbx_cons (T.exq 12) (by rfl) (T.isq 165 (x := "NoKind") (c := fun K => .ty "ValueError") (b := true)) (tbx_cons (T.exq 14) (by rfl) (T.isq 166 (x := "NoProgram") (c := fun K => .ty "ValueError") (b := true)) (tbx_cons (T.exq 16) (by rfl) (T.isq 167 (x := "NoRow") (c := fun K => .ty "ValueError") (b := true)) (tbx_cons (T.exq 18) (by rfl) (T.isq 168 (x := "NoRun") (c := fun K => .ty "ValueError") (b := true)) (tbx_cons (T.exq 20) (by rfl) (T.isq 169 (x := "NoShelf") (c := fun K => .ty "ValueError") (b := true)) (tbx_cons (T.exq 22) (by rfl) (T.isq 170 (x := "NoSort") (c := fun K => .ty "ValueError") (b := true)) (tbx_cons (T.exq 24) (by rfl) (T.isq 171 (x := "NoText") (c := fun K => .ty "ValueError") (b := true)) (tbx_cons (T.exq 26) (by rfl) (T.isq 172 (x := "NoThings") (c := fun K => .ty "ValueError") (b := true)) (tbx_cons (T.exq 28) (by rfl) (T.isq 173 (x := "TooMany") (c := fun K => .ty "ValueError") (b := true)) tbx_nil))))))))))))) (by rfl) (T.free 41) (by decide +kernel) (da_cons (de_var 1) (da_one (de_ty (by rfl) (T.free 36) (by decide +kernel))))))))).dt) (dss_one (ds_ret (p := true) (de_str))) (dss_nil))
    (dss_one (ds_ret (p := true) (de_ix (hu_ hr) (de_var 4) (de_index rfl (hu_ hr) (de_var 3) (de_bl))))))))))))))
    (hfs := h_l_refusal)
abbrev st_p_heap_worst : Stmt := topS 30
abbrev nm_p_heap_worst : List PySem.Str := ["word", "size"]
theorem sc_p_heap_worst : FnScope nm_p_heap_worst ["word", "size"] (defScope st_p_heap_worst) := ⟨rfl, rfl, rfl, by decide +kernel, rfl, by decide +kernel, by decide +kernel⟩
theorem ok_p_heap_worst (T : WorC fa fn ts cs w K mg) : Def P w K mg base 1 "heap_worst" ["word", "size"] [.v, .v] (fs_p_heap_worst K) :=
  T.def_ 8 (g := g_p_heap_worst K) sc_p_heap_worst (hbd := fun _ _ _ _ _ _ us hl => match us, hl with | [_, _], _ => rfl) (hmo := mo_p_heap_worst)
    (hbody := fun f cdv A outer s H E hr hgd => dss_one (ds_ret (p := true) (de_add (de_var 1) (de_if (dt_cmp (od_eqA (hu_ hr)) (de_var 0) (de_str)) (de_int) (de_int)))))
    (hfs := h_p_heap_worst)
abbrev st_p_halvings : Stmt := topS 28
abbrev nm_p_halvings : List PySem.Str := ["many", "found"]
theorem sc_p_halvings : FnScope nm_p_halvings ["many"] (defScope st_p_halvings) := ⟨rfl, rfl, rfl, by decide +kernel, rfl, by decide +kernel, by decide +kernel⟩
theorem ok_p_halvings (T : WorC fa fn ts cs w K mg) : Def P w K mg base 1 "halvings" ["many"] [.v] (fs_p_halvings K) :=
  T.def_ 9 (g := g_p_halvings K) sc_p_halvings (hbd := fun _ _ _ _ _ _ us hl => match us, hl with | [_], _ => rfl) (hmo := mo_p_halvings)
    (hbody := fun f cdv A outer s H E hr hgd => dss_cons (ds_set (p := true) 1 sc_p_halvings.nd (de_int))
    (dss_cons (ds_while (p := true) (passes_of rfl) (dt_cmp od_gt (de_var 0) (de_int)) (dss_cons (ds_set (p := true) 0 sc_p_halvings.nd (de_op od_fdiv (de_var 0) (de_int)))
    (dss_one (ds_augI (p := true) 1 sc_p_halvings.nd (de_int)))))
    (dss_one (ds_ret (p := true) (de_var 1)))))
    (hfs := h_p_halvings)
abbrev st_p_line_worst : Stmt := topS 31
abbrev nm_p_line_worst : List PySem.Str := ["word", "size", "ranked", "found"]
theorem sc_p_line_worst : FnScope nm_p_line_worst ["word", "size"] (defScope st_p_line_worst) := ⟨rfl, rfl, rfl, by decide +kernel, rfl, by decide +kernel, by decide +kernel⟩
theorem ok_p_line_worst (T : WorC fa fn ts cs w K mg) : Def P w K mg base 2 "line_worst" ["word", "size"] [.v, .v] (fs_p_line_worst K) :=
  T.def_ 10 (g := g_p_line_worst K) sc_p_line_worst (hbd := fun _ _ _ _ _ _ us hl => match us, hl with | [_, _], _ => rfl) (hmo := mo_p_line_worst)
    (hbody := fun f cdv A outer s H E hr hgd => dss_cons (ds_set (p := true) 2 sc_p_line_worst.nd (de_add (de_int) (dc_p ((ok_p_halvings T)) hr hgd (dak_one (k := .v) (de_var 1)))))
    (dss_cons (ds_if (p := true) (dt_cmp (od_eqA (hu_ hr)) (de_var 0) (de_str)) (dss_one (ds_ret (p := true) (de_var 2))) (dss_nil))
    (dss_cons (ds_set (p := true) 3 sc_p_line_worst.nd (de_add (de_var 2) (de_callB (ca_minA rfl (hu_ hr)) (by rfl) (T.free 44) (by decide +kernel) (da_cons (de_var 1) (da_one (de_int))))))
    (dss_cons (ds_if (p := true) (dt_cmp (od_eqA (hu_ hr)) (de_var 0) (de_str)) (dss_one (ds_ret (p := true) (de_add (de_add (de_var 3) (de_int)) (de_var 1)))) (dss_nil))
    (dss_one (ds_ret (p := true) (de_add (de_var 3) (de_if (dt_cmp (od_eqA (hu_ hr)) (de_var 0) (de_str)) (de_callB (ca_maxA rfl (hu_ hr)) (by rfl) (T.free 43) (by decide +kernel) (da_cons (de_op od_sub (de_var 1) (de_int)) (da_one (de_int)))) (de_int)))))))))
    (hfs := h_p_line_worst)
abbrev st_p_tiers_of : Stmt := topS 29
abbrev nm_p_tiers_of : List PySem.Str := ["size"]
theorem sc_p_tiers_of : FnScope nm_p_tiers_of ["size"] (defScope st_p_tiers_of) := ⟨rfl, rfl, rfl, by decide +kernel, rfl, by decide +kernel, by decide +kernel⟩
theorem ok_p_tiers_of (T : WorC fa fn ts cs w K mg) : Def P w K mg base 1 "tiers_of" ["size"] [.v] (fs_p_tiers_of K) :=
  T.def_ 11 (g := g_p_tiers_of K) sc_p_tiers_of (hbd := fun _ _ _ _ _ _ us hl => match us, hl with | [_], _ => rfl) (hmo := mo_p_tiers_of)
    (hbody := fun f cdv A outer s H E hr hgd => dss_one (ds_ret (p := true) (de_op od_fdiv (de_op od_sub (de_add (de_var 0) (dg_int (T.int 50))) (de_int)) (dg_int (T.int 50)))))
    (hfs := h_p_tiers_of)
abbrev st_p_tiers_worst : Stmt := topS 32
abbrev nm_p_tiers_worst : List PySem.Str := ["word", "size", "ranked", "found", "behind"]
theorem sc_p_tiers_worst : FnScope nm_p_tiers_worst ["word", "size"] (defScope st_p_tiers_worst) := ⟨rfl, rfl, rfl, by decide +kernel, rfl, by decide +kernel, by decide +kernel⟩
theorem ok_p_tiers_worst (T : WorC fa fn ts cs w K mg) : Def P w K mg base 2 "tiers_worst" ["word", "size"] [.v, .v] (fs_p_tiers_worst K) :=
  T.def_ 12 (g := g_p_tiers_worst K) sc_p_tiers_worst (hbd := fun _ _ _ _ _ _ us hl => match us, hl with | [_, _], _ => rfl) (hmo := mo_p_tiers_worst)
    (hbody := fun f cdv A outer s H E hr hgd => dss_cons (ds_set (p := true) 2 sc_p_tiers_worst.nd (de_add (de_add (de_int) (dc_p ((ok_p_halvings T)) hr hgd (dak_one (k := .v) (dc_p ((ok_p_tiers_of T)) hr hgd (dak_one (k := .v) (de_var 1)))))) (dc_p ((ok_p_halvings T)) hr hgd (dak_one (k := .v) (de_callB (ca_minA rfl (hu_ hr)) (by rfl) (T.free 44) (by decide +kernel) (da_cons (de_var 1) (da_one (dg_int (T.int 50)))))))))
    (dss_cons (ds_if (p := true) (dt_cmp (od_eqA (hu_ hr)) (de_var 0) (de_str)) (dss_one (ds_ret (p := true) (de_var 2))) (dss_nil))
    (dss_cons (ds_set (p := true) 3 sc_p_tiers_worst.nd (de_add (de_var 2) (de_callB (ca_minA rfl (hu_ hr)) (by rfl) (T.free 44) (by decide +kernel) (da_cons (de_var 1) (da_one (de_int))))))
    (dss_cons (ds_set (p := true) 4 sc_p_tiers_worst.nd (de_callB (ca_maxA rfl (hu_ hr)) (by rfl) (T.free 43) (by decide +kernel) (da_cons (de_op od_sub (dc_p ((ok_p_tiers_of T)) hr hgd (dak_one (k := .v) (de_var 1))) (de_int)) (da_one (de_int)))))
    (dss_cons (ds_if (p := true) (dt_cmp (od_eqA (hu_ hr)) (de_var 0) (de_str)) (dss_one (ds_ret (p := true) (de_add (de_add (de_add (de_var 3) (de_int)) (de_callB (ca_minA rfl (hu_ hr)) (by rfl) (T.free 44) (by decide +kernel) (da_cons (de_var 1) (da_one (dg_int (T.int 50)))))) (de_var 4)))) (dss_nil))
    (dss_cons (ds_if (p := true) (dt_cmp (od_eqA (hu_ hr)) (de_var 0) (de_str)) (dss_one (ds_ret (p := true) (de_add (de_add (de_var 3) (de_callB (ca_minA rfl (hu_ hr)) (by rfl) (T.free 44) (by decide +kernel) (da_cons (de_callB (ca_maxA rfl (hu_ hr)) (by rfl) (T.free 43) (by decide +kernel) (da_cons (de_op od_sub (de_var 1) (de_int)) (da_one (de_int)))) (da_one (de_op od_sub (dg_int (T.int 50)) (de_int)))))) (de_var 4)))) (dss_nil))
    (dss_one (ds_ret (p := true) (de_var 3)))))))))
    (hfs := h_p_tiers_worst)
abbrev st_p_pails_worst : Stmt := topS 33
abbrev nm_p_pails_worst : List PySem.Str := ["word", "size"]
theorem sc_p_pails_worst : FnScope nm_p_pails_worst ["word", "size"] (defScope st_p_pails_worst) := ⟨rfl, rfl, rfl, by decide +kernel, rfl, by decide +kernel, by decide +kernel⟩
theorem ok_p_pails_worst (T : WorC fa fn ts cs w K mg) : Def P w K mg base 2 "pails_worst" ["word", "size"] [.v, .v] (fs_p_pails_worst K) :=
  T.def_ 13 (g := g_p_pails_worst K) sc_p_pails_worst (hbd := fun _ _ _ _ _ _ us hl => match us, hl with | [_, _], _ => rfl) (hmo := mo_p_pails_worst)
    (hbody := fun f cdv A outer s H E hr hgd => dss_cons (ds_if (p := true) (dt_cmp (od_in (hu_ hr)) (de_var 0) (de_tupN (an_cons (de_str) (an_cons (de_str) an_nil)))) (dss_one (ds_ret (p := true) (de_add (de_add (de_int) (dg_int (T.int 50))) (de_var 1)))) (dss_nil))
    (dss_one (ds_ret (p := true) (dc_p ((ok_p_heap_worst T)) hr hgd (dak_cons (k := .v) (de_var 0) (dak_one (k := .v) (de_var 1)))))))
    (hfs := h_p_pails_worst)
abbrev st_p_tree_worst : Stmt := topS 34
abbrev nm_p_tree_worst : List PySem.Str := ["word", "size"]
theorem sc_p_tree_worst : FnScope nm_p_tree_worst ["word", "size"] (defScope st_p_tree_worst) := ⟨rfl, rfl, rfl, by decide +kernel, rfl, by decide +kernel, by decide +kernel⟩
theorem ok_p_tree_worst (T : WorC fa fn ts cs w K mg) : Def P w K mg base 1 "tree_worst" ["word", "size"] [.v, .v] (fs_p_tree_worst K) :=
  T.def_ 14 (g := g_p_tree_worst K) sc_p_tree_worst (hbd := fun _ _ _ _ _ _ us hl => match us, hl with | [_, _], _ => rfl) (hmo := mo_p_tree_worst)
    (hbody := fun f cdv A outer s H E hr hgd => dss_cons (ds_if (p := true) (dt_cmp (od_eqA (hu_ hr)) (de_var 0) (de_str)) (dss_one (ds_ret (p := true) (de_add (de_int) (de_op od_mulI (de_int) (de_var 1))))) (dss_nil))
    (dss_one (ds_ret (p := true) (de_add (de_add (de_int) (de_var 1)) (de_if (dt_cmp (od_eqA (hu_ hr)) (de_var 0) (de_str)) (de_callB (ca_maxA rfl (hu_ hr)) (by rfl) (T.free 43) (by decide +kernel) (da_cons (de_op od_sub (de_var 1) (de_int)) (da_one (de_int)))) (de_int))))))
    (hfs := h_p_tree_worst)
abbrev st_p_set_worst : Stmt := topS 35
abbrev nm_p_set_worst : List PySem.Str := ["kind", "word", "size"]
theorem sc_p_set_worst : FnScope nm_p_set_worst ["kind", "word", "size"] (defScope st_p_set_worst) := ⟨rfl, rfl, rfl, by decide +kernel, rfl, by decide +kernel, by decide +kernel⟩
theorem ok_p_set_worst (T : WorC fa fn ts cs w K mg) : Def P w K mg base 3 "set_worst" ["kind", "word", "size"] [.v, .v, .v] (fs_p_set_worst K) :=
  T.def_ 15 (g := g_p_set_worst K) sc_p_set_worst (hbd := fun _ _ _ _ _ _ us hl => match us, hl with | [_, _, _], _ => rfl) (hmo := mo_p_set_worst)
    (hbody := fun f cdv A outer s H E hr hgd => dss_cons (ds_if (p := true) (dt_cmp (od_eqA (hu_ hr)) (de_var 0) (de_str)) (dss_one (ds_ret (p := true) (dc_p ((ok_p_heap_worst T).mono (n := 2)) hr hgd (dak_cons (k := .v) (de_var 1) (dak_one (k := .v) (de_var 2)))))) (dss_nil))
    (dss_cons (ds_if (p := true) (dt_cmp (od_eqA (hu_ hr)) (de_var 0) (de_str)) (dss_one (ds_ret (p := true) (dc_p ((ok_p_line_worst T)) hr hgd (dak_cons (k := .v) (de_var 1) (dak_one (k := .v) (de_var 2)))))) (dss_nil))
    (dss_cons (ds_if (p := true) (dt_cmp (od_eqA (hu_ hr)) (de_var 0) (de_str)) (dss_one (ds_ret (p := true) (dc_p ((ok_p_tiers_worst T)) hr hgd (dak_cons (k := .v) (de_var 1) (dak_one (k := .v) (de_var 2)))))) (dss_nil))
    (dss_one (ds_ret (p := true) (de_if (dt_cmp (od_eqA (hu_ hr)) (de_var 0) (de_str)) (dc_p ((ok_p_pails_worst T)) hr hgd (dak_cons (k := .v) (de_var 1) (dak_one (k := .v) (de_var 2)))) (dc_p ((ok_p_tree_worst T).mono (n := 2)) hr hgd (dak_cons (k := .v) (de_var 1) (dak_one (k := .v) (de_var 2))))))))))
    (hfs := h_p_set_worst)
abbrev st_p_need_sort : Stmt := topS 19
abbrev nm_p_need_sort : List PySem.Str := ["sort"]
theorem sc_p_need_sort : FnScope nm_p_need_sort ["sort"] (defScope st_p_need_sort) := ⟨rfl, rfl, rfl, by decide +kernel, rfl, by decide +kernel, by decide +kernel⟩
theorem ok_p_need_sort (T : WorC fa fn ts cs w K mg) : Def P w K mg base 1 "need_sort" ["sort"] [.v] (fs_p_need_sort K) :=
  T.def_ 16 (g := g_p_need_sort K) sc_p_need_sort (hbd := fun _ _ _ _ _ _ us hl => match us, hl with | [_], _ => rfl) (hmo := mo_p_need_sort)
    (hbody := fun f cdv A outer s H E hr hgd => dss_one (ds_if (p := true) ((dw_or (dt_not (dt_tru (de_callB ca_isi (by rfl) (T.free 41) (by decide +kernel) (da_cons (de_var 0) (da_one (de_ty (by rfl) (T.free 47) (by decide +kernel))))))) (dw_or1 (dt_cmp (od_notinTab (T.tb 54 3)) (de_var 0) (dg_tab (T.tb 54 3))))).dt) (dss_one (ds_raise (T.exc 60))) (dss_nil)))
    (hfs := h_p_need_sort)
abbrev st_p_kinds_of : Stmt := topS 23
abbrev nm_p_kinds_of : List PySem.Str := ["sort"]
theorem sc_p_kinds_of : FnScope nm_p_kinds_of ["sort"] (defScope st_p_kinds_of) := ⟨rfl, rfl, rfl, by decide +kernel, rfl, by decide +kernel, by decide +kernel⟩
theorem ok_p_kinds_of (T : WorC fa fn ts cs w K mg) : Def P w K mg base 2 "kinds_of" ["sort"] [.v] (fs_p_kinds_of K) :=
  T.def_ 17 (g := g_p_kinds_of K) sc_p_kinds_of (hbd := fun _ _ _ _ _ _ us hl => match us, hl with | [_], _ => rfl) (hmo := mo_p_kinds_of)
    (hbody := fun f cdv A outer s H E hr hgd => dss_cons (ds_expr (p := true) (dc_p ((ok_p_need_sort T)) hr hgd (dak_one (k := .v) (de_var 0))))
    (dss_one (ds_ret (p := true) (de_tabIx (T.tbv 55 4 4 (kvs := kv_KINDS)) (de_var 0)))))
    (hfs := h_p_kinds_of)
abbrev st_p_chain_worst : Stmt := topS 37
abbrev nm_p_chain_worst : List PySem.Str := ["word", "size", "near"]
theorem sc_p_chain_worst : FnScope nm_p_chain_worst ["word", "size"] (defScope st_p_chain_worst) := ⟨rfl, rfl, rfl, by decide +kernel, rfl, by decide +kernel, by decide +kernel⟩
theorem ok_p_chain_worst (T : WorC fa fn ts cs w K mg) : Def P w K mg base 1 "chain_worst" ["word", "size"] [.v, .v] (fs_p_chain_worst K) :=
  T.def_ 18 (g := g_p_chain_worst K) sc_p_chain_worst (hbd := fun _ _ _ _ _ _ us hl => match us, hl with | [_, _], _ => rfl) (hmo := mo_p_chain_worst)
    (hbody := fun f cdv A outer s H E hr hgd => dss_cons (ds_if (p := true) (dt_cmp (od_eqA (hu_ hr)) (de_var 0) (de_str)) (dss_one (ds_ret (p := true) (de_add (de_int) (de_op od_fdiv (de_var 1) (de_int))))) (dss_nil))
    (dss_cons (ds_set (p := true) 2 sc_p_chain_worst.nd (de_add (de_int) (de_op od_fdiv (de_add (de_var 1) (de_int)) (de_int))))
    (dss_one (ds_ret (p := true) (de_add (de_var 2) (de_if (dt_cmp (od_eqA (hu_ hr)) (de_var 0) (de_str)) (de_callB (ca_minA rfl (hu_ hr)) (by rfl) (T.free 44) (by decide +kernel) (da_cons (de_var 1) (da_one (de_int)))) (de_int)))))))
    (hfs := h_p_chain_worst)
abbrev st_p_blocks_worst : Stmt := topS 38
abbrev nm_p_blocks_worst : List PySem.Str := ["word", "size", "behind"]
theorem sc_p_blocks_worst : FnScope nm_p_blocks_worst ["word", "size"] (defScope st_p_blocks_worst) := ⟨rfl, rfl, rfl, by decide +kernel, rfl, by decide +kernel, by decide +kernel⟩
theorem ok_p_blocks_worst (T : WorC fa fn ts cs w K mg) : Def P w K mg base 2 "blocks_worst" ["word", "size"] [.v, .v] (fs_p_blocks_worst K) :=
  T.def_ 19 (g := g_p_blocks_worst K) sc_p_blocks_worst (hbd := fun _ _ _ _ _ _ us hl => match us, hl with | [_, _], _ => rfl) (hmo := mo_p_blocks_worst)
    (hbody := fun f cdv A outer s H E hr hgd => dss_cons (ds_if (p := true) (dt_cmp (od_eqA (hu_ hr)) (de_var 0) (de_str)) (dss_one (ds_ret (p := true) (de_add (de_int) (de_callB (ca_minA rfl (hu_ hr)) (by rfl) (T.free 44) (by decide +kernel) (da_cons (de_var 1) (da_one (de_int))))))) (dss_nil))
    (dss_cons (ds_set (p := true) 2 sc_p_blocks_worst.nd (de_callB (ca_maxA rfl (hu_ hr)) (by rfl) (T.free 43) (by decide +kernel) (da_cons (de_op od_sub (dc_p ((ok_p_tiers_of T)) hr hgd (dak_one (k := .v) (de_var 1))) (de_int)) (da_one (de_int)))))
    (dss_cons (ds_if (p := true) (dt_cmp (od_eqA (hu_ hr)) (de_var 0) (de_str)) (dss_one (ds_ret (p := true) (de_add (de_add (de_int) (de_callB (ca_minA rfl (hu_ hr)) (by rfl) (T.free 44) (by decide +kernel) (da_cons (de_var 1) (da_one (dg_int (T.int 50)))))) (de_var 2)))) (dss_nil))
    (dss_one (ds_ret (p := true) (de_add (de_add (de_int) (de_callB (ca_minA rfl (hu_ hr)) (by rfl) (T.free 44) (by decide +kernel) (da_cons (de_callB (ca_maxA rfl (hu_ hr)) (by rfl) (T.free 43) (by decide +kernel) (da_cons (de_op od_sub (de_var 1) (de_int)) (da_one (de_int)))) (da_one (de_op od_sub (dg_int (T.int 50)) (de_int)))))) (de_var 2)))))))
    (hfs := h_p_blocks_worst)
abbrev st_p_strip_worst : Stmt := topS 36
abbrev nm_p_strip_worst : List PySem.Str := ["word", "size"]
theorem sc_p_strip_worst : FnScope nm_p_strip_worst ["word", "size"] (defScope st_p_strip_worst) := ⟨rfl, rfl, rfl, by decide +kernel, rfl, by decide +kernel, by decide +kernel⟩
theorem ok_p_strip_worst (T : WorC fa fn ts cs w K mg) : Def P w K mg base 1 "strip_worst" ["word", "size"] [.v, .v] (fs_p_strip_worst K) :=
  T.def_ 20 (g := g_p_strip_worst K) sc_p_strip_worst (hbd := fun _ _ _ _ _ _ us hl => match us, hl with | [_, _], _ => rfl) (hmo := mo_p_strip_worst)
    (hbody := fun f cdv A outer s H E hr hgd => dss_one (ds_ret (p := true) (de_if (dt_cmp (od_eqA (hu_ hr)) (de_var 0) (de_str)) (de_add (de_int) (de_var 1)) (de_add (de_int) (de_callB (ca_maxA rfl (hu_ hr)) (by rfl) (T.free 43) (by decide +kernel) (da_cons (de_op od_sub (de_var 1) (de_int)) (da_one (de_int))))))))
    (hfs := h_p_strip_worst)
abbrev st_p_row_worst : Stmt := topS 39
abbrev nm_p_row_worst : List PySem.Str := ["kind", "word", "size"]
theorem sc_p_row_worst : FnScope nm_p_row_worst ["kind", "word", "size"] (defScope st_p_row_worst) := ⟨rfl, rfl, rfl, by decide +kernel, rfl, by decide +kernel, by decide +kernel⟩
theorem ok_p_row_worst (T : WorC fa fn ts cs w K mg) : Def P w K mg base 3 "row_worst" ["kind", "word", "size"] [.v, .v, .v] (fs_p_row_worst K) :=
  T.def_ 21 (g := g_p_row_worst K) sc_p_row_worst (hbd := fun _ _ _ _ _ _ us hl => match us, hl with | [_, _, _], _ => rfl) (hmo := mo_p_row_worst)
    (hbody := fun f cdv A outer s H E hr hgd => dss_cons (ds_if (p := true) (dt_cmp (od_eqA (hu_ hr)) (de_var 1) (de_str)) (dss_one (ds_ret (p := true) (de_add (de_int) (de_var 2)))) (dss_nil))
    (dss_cons (ds_if (p := true) (dt_cmp (od_eqA (hu_ hr)) (de_var 0) (de_str)) (dss_one (ds_ret (p := true) (dc_p ((ok_p_chain_worst T).mono (n := 2)) hr hgd (dak_cons (k := .v) (de_var 1) (dak_one (k := .v) (de_var 2)))))) (dss_nil))
    (dss_cons (ds_if (p := true) (dt_cmp (od_eqA (hu_ hr)) (de_var 0) (de_str)) (dss_one (ds_ret (p := true) (dc_p ((ok_p_blocks_worst T)) hr hgd (dak_cons (k := .v) (de_var 1) (dak_one (k := .v) (de_var 2)))))) (dss_nil))
    (dss_one (ds_ret (p := true) (de_if (dt_cmp (od_eqA (hu_ hr)) (de_var 1) (de_str)) (de_int) (dc_p ((ok_p_strip_worst T).mono (n := 2)) hr hgd (dak_cons (k := .v) (de_var 1) (dak_one (k := .v) (de_var 2))))))))))
    (hfs := h_p_row_worst)
abbrev st_p_words_of : Stmt := topS 40
abbrev nm_p_words_of : List PySem.Str := ["sort"]
theorem sc_p_words_of : FnScope nm_p_words_of ["sort"] (defScope st_p_words_of) := ⟨rfl, rfl, rfl, by decide +kernel, rfl, by decide +kernel, by decide +kernel⟩
theorem ok_p_words_of (T : WorC fa fn ts cs w K mg) : Def P w K mg base 1 "words_of" ["sort"] [.v] (fs_p_words_of K) :=
  T.def_ 22 (g := g_p_words_of K) sc_p_words_of (hbd := fun _ _ _ _ _ _ us hl => match us, hl with | [_], _ => rfl) (hmo := mo_p_words_of)
    (hbody := fun f cdv A outer s H E hr hgd => dss_cons (ds_if (p := true) (dt_cmp (od_eqA (hu_ hr)) (de_var 0) (de_str)) (dss_one (ds_ret (p := true) (de_tupN (an_cons (de_str) (an_cons (de_str) (an_cons (de_str) (an_cons (de_str) (an_cons (de_str) an_nil)))))))) (dss_nil))
    (dss_one (ds_ret (p := true) (de_if (dt_cmp (od_eqA (hu_ hr)) (de_var 0) (de_str)) (de_tupN (an_cons (de_str) (an_cons (de_str) (an_cons (de_str) (an_cons (de_str) an_nil))))) (de_tupN (an_cons (de_str) (an_cons (de_str) (an_cons (de_str) (an_cons (de_str) an_nil)))))))))
    (hfs := h_p_words_of)
abbrev st_p_is_size : Stmt := topS 27
abbrev nm_p_is_size : List PySem.Str := ["size", "most"]
theorem sc_p_is_size : FnScope nm_p_is_size ["size", "most"] (defScope st_p_is_size) := ⟨rfl, rfl, rfl, by decide +kernel, rfl, by decide +kernel, by decide +kernel⟩
theorem ok_p_is_size (T : WorC fa fn ts cs w K mg) : Def P w K mg base 1 "is_size" ["size", "most"] [.v, .v] (fs_p_is_size K) :=
  T.def_ 23 (g := g_p_is_size K) sc_p_is_size (hbd := fun _ _ _ _ _ _ us hl => match us, hl with | [_, _], _ => rfl) (hmo := mo_p_is_size)
    (hbody := fun f cdv A outer s H E hr hgd => dss_one (ds_ret (p := true) (de_and (de_callB ca_isi (by rfl) (T.free 41) (by decide +kernel) (da_cons (de_var 0) (da_one (de_ty (by rfl) (T.free 40) (by decide +kernel))))) (de_and (de_not (de_callB ca_isi (by rfl) (T.free 41) (by decide +kernel) (da_cons (de_var 0) (da_one (de_ty (by rfl) (T.free 38) (by decide +kernel)))))) (de_one (de_chain od_le od_le (de_int) (de_var 0) (de_var 1)))))))
    (hfs := h_p_is_size)
abbrev st_p_key_word : Stmt := topS 41
abbrev nm_p_key_word : List PySem.Str := ["word"]
theorem sc_p_key_word : FnScope nm_p_key_word ["word"] (defScope st_p_key_word) := ⟨rfl, rfl, rfl, by decide +kernel, rfl, by decide +kernel, by decide +kernel⟩
theorem ok_p_key_word (T : WorC fa fn ts cs w K mg) : Def P w K mg base 1 "key_word" ["word"] [.v] (fs_p_key_word K) :=
  T.def_ 24 (g := g_p_key_word K) sc_p_key_word (hbd := fun _ _ _ _ _ _ us hl => match us, hl with | [_], _ => rfl) (hmo := mo_p_key_word)
    (hbody := fun f cdv A outer s H E hr hgd => dss_cons (ds_if (p := true) (dt_cmp (od_eqA (hu_ hr)) (de_var 0) (de_str)) (dss_one (ds_ret (p := true) (de_str))) (dss_nil))
    (dss_cons (ds_if (p := true) (dt_cmp (od_eqA (hu_ hr)) (de_var 0) (de_str)) (dss_one (ds_ret (p := true) (de_str))) (dss_nil))
    (dss_one (ds_ret (p := true) (de_if (dt_cmp (od_eqA (hu_ hr)) (de_var 0) (de_str)) (de_str) (de_str))))))
    (hfs := h_p_key_word)
abbrev st_p_worst : Stmt := topS 42
abbrev nm_p_worst : List PySem.Str := ["sort", "kind", "word", "size"]
theorem sc_p_worst : FnScope nm_p_worst ["sort", "kind", "word", "size"] (defScope st_p_worst) := ⟨rfl, rfl, rfl, by decide +kernel, rfl, by decide +kernel, by decide +kernel⟩
theorem ok_p_worst (T : WorC fa fn ts cs w K mg) : Def P w K mg base 4 "worst" ["sort", "kind", "word", "size"] [.v, .v, .v, .v] (fs_p_worst K) :=
  T.def_ 25 (g := g_p_worst K) sc_p_worst (hbd := fun _ _ _ _ _ _ us hl => match us, hl with | [_, _, _, _], _ => rfl) (hmo := mo_p_worst)
    (hbody := fun f cdv A outer s H E hr hgd => dss_cons (ds_if (p := true) (dt_cmp (od_notinT (hu_ hr)) (de_var 1) (dc_p ((ok_p_kinds_of T).mono (n := 3)) hr hgd (dak_one (k := .v) (de_var 0)))) (dss_one (ds_raise (T.exc 58))) (dss_nil))
    (dss_cons (ds_if (p := true) ((dw_or (dt_not (dt_tru (de_callB ca_isi (by rfl) (T.free 41) (by decide +kernel) (da_cons (de_var 2) (da_one (de_ty (by rfl) (T.free 47) (by decide +kernel))))))) (dw_or (dt_cmp (od_notin (hu_ hr)) (de_var 2) (dc_p ((ok_p_words_of T).mono (n := 3)) hr hgd (dak_one (k := .v) (de_var 0)))) (dw_or1 (dt_not (dt_tru (dc_p ((ok_p_is_size T).mono (n := 3)) hr hgd (dak_cons (k := .v) (de_var 3) (dak_one (k := .v) (dg_int (T.int 49)))))))))).dt) (dss_one (ds_raise (T.exc 56))) (dss_nil))
    (dss_cons (ds_if (p := true) (dt_cmp (od_eqA (hu_ hr)) (de_var 0) (de_str)) (dss_one (ds_ret (p := true) (dc_p ((ok_p_row_worst T)) hr hgd (dak_cons (k := .v) (de_var 1) (dak_cons (k := .v) (de_var 2) (dak_one (k := .v) (de_var 3))))))) (dss_nil))
    (dss_cons (ds_if (p := true) (dt_cmp (od_eqA (hu_ hr)) (de_var 0) (de_str)) (dss_one (ds_ret (p := true) (de_add (dc_p ((ok_p_set_worst T)) hr hgd (dak_cons (k := .v) (de_var 1) (dak_cons (k := .v) (dc_p ((ok_p_key_word T).mono (n := 3)) hr hgd (dak_one (k := .v) (de_var 2))) (dak_one (k := .v) (de_var 3))))) (de_if (dt_cmp (od_eqA (hu_ hr)) (de_var 2) (de_str)) (de_int) (de_int))))) (dss_nil))
    (dss_one (ds_ret (p := true) (dc_p ((ok_p_set_worst T)) hr hgd (dak_cons (k := .v) (de_var 1) (dak_cons (k := .v) (de_var 2) (dak_one (k := .v) (de_var 3)))))))))))
    (hfs := h_p_worst)
abbrev st_p_sizes : Stmt := topS 43
abbrev nm_p_sizes : List PySem.Str := ["word", "size", "known"]
theorem sc_p_sizes : FnScope nm_p_sizes ["word", "size"] (defScope st_p_sizes) := ⟨rfl, rfl, rfl, by decide +kernel, rfl, by decide +kernel, by decide +kernel⟩
theorem ok_p_sizes (T : WorC fa fn ts cs w K mg) : Def P w K mg base 2 "sizes" ["word", "size"] [.v, .v] (fs_p_sizes K) :=
  T.def_ 26 (g := g_p_sizes K) sc_p_sizes (hbd := fun _ _ _ _ _ _ us hl => match us, hl with | [_, _], _ => rfl) (hmo := mo_p_sizes)
    (hbody := fun f cdv A outer s H E hr hgd => dss_cons (ds_set (p := true) 2 sc_p_sizes.nd (de_and (de_callB ca_isi (by rfl) (T.free 41) (by decide +kernel) (da_cons (de_var 0) (da_one (de_ty (by rfl) (T.free 47) (by decide +kernel))))) (de_one (de_cmp (od_in (hu_ hr)) (de_var 0) (de_add (de_add (dc_p ((ok_p_words_of T)) hr hgd (dak_one (k := .v) (de_str))) (dc_p ((ok_p_words_of T)) hr hgd (dak_one (k := .v) (de_str)))) (dc_p ((ok_p_words_of T)) hr hgd (dak_one (k := .v) (de_str))))))))
    (dss_cons (ds_if (p := true) ((dw_or (dt_not (dt_tru (de_var 2))) (dw_or1 (dt_not (dt_tru (dc_p ((ok_p_is_size T)) hr hgd (dak_cons (k := .v) (de_var 1) (dak_one (k := .v) (de_op od_sub (dg_int (T.int 49)) (de_int))))))))).dt) (dss_one (ds_raise (T.exc 56))) (dss_nil))
    (dss_cons (ds_if (p := true) (dt_cmp (od_eqA (hu_ hr)) (de_var 0) (de_str)) (dss_one (ds_ret (p := true) (de_tupN (an_cons (de_add (de_var 1) (de_int)) an_nil)))) (dss_nil))
    (dss_cons (ds_if (p := true) (dt_cmp (od_in (hu_ hr)) (de_var 0) (de_tupN (an_cons (de_str) (an_cons (de_str) an_nil)))) (dss_one (ds_ret (p := true) (de_if (dt_cmp (od_eqA (hu_ hr)) (de_var 1) (de_int)) (de_tupN (an_cons (de_int) an_nil)) (de_tupN (an_cons (de_var 1) (an_cons (de_add (de_var 1) (de_int)) an_nil)))))) (dss_nil))
    (dss_cons (ds_if (p := true) (dt_cmp (od_in (hu_ hr)) (de_var 0) (de_tupN (an_cons (de_str) (an_cons (de_str) (an_cons (de_str) an_nil))))) (dss_one (ds_ret (p := true) (de_if (dt_cmp (od_eqA (hu_ hr)) (de_var 1) (de_int)) (de_tupN (an_cons (de_int) an_nil)) (de_tupN (an_cons (de_op od_sub (de_var 1) (de_int)) (an_cons (de_var 1) an_nil)))))) (dss_nil))
    (dss_one (ds_ret (p := true) (de_tupN (an_cons (de_var 1) an_nil)))))))))
    (hfs := h_p_sizes)
abbrev st_l_row_worst : Stmt := topS 52
abbrev nm_l_row_worst : List PySem.Str := ["_law_kind", "_law_word", "_law_s", "_law_u", "_law_w", "_law_half"]
theorem sc_l_row_worst : FnScope nm_l_row_worst ["_law_kind", "_law_word", "_law_s"] (defScope st_l_row_worst) := ⟨rfl, rfl, rfl, by decide +kernel, rfl, by decide +kernel, by decide +kernel⟩
theorem ok_l_row_worst (T : WorC fa fn ts cs w K mg) : Def P w K mg base 1 "_law_row_worst" ["_law_kind", "_law_word", "_law_s"] [.v, .v, .v] (fs_l_row_worst K) :=
  T.def_ 27 (g := g_l_row_worst K) sc_l_row_worst (hbd := fun _ _ _ _ _ _ us hl => match us, hl with | [_, _, _], _ => rfl) (hmo := mo_l_row_worst)
    (hbody := fun f cdv A outer s H E hr hgd => dss_cons (ds_par (p := true) 3 4 rfl sc_l_row_worst.nd (da_cons (de_callB (ca_maxA rfl (hu_ hr)) (by rfl) (T.free 43) (by decide +kernel) (da_cons (de_int) (da_one (de_op od_sub (de_var 2) (de_int))))) (da_one (de_callB (ca_maxA rfl (hu_ hr)) (by rfl) (T.free 43) (by decide +kernel) (da_cons (de_int) (da_one (de_op od_sub (de_op od_fdiv (de_add (de_var 2) (de_int)) (de_int)) (de_int))))))))
    (dss_cons (ds_if (p := true) (dt_cmp (od_eqA (hu_ hr)) (de_var 1) (de_str)) (dss_one (ds_ret (p := true) (de_add (de_int) (de_var 2)))) (dss_nil))
    (dss_cons (ds_if (p := true) (dt_cmp (od_eqA (hu_ hr)) (de_var 0) (de_str)) (dss_one (ds_ret (p := true) (de_ix (hu_ hr) (de_dispV (dps_cons (de_int) (dps_cons (de_add (de_int) (de_var 2)) (dps_cons (de_add (de_int) (de_var 3)) (dps_nil))))) (de_var 1)))) (dss_nil))
    (dss_cons (ds_if (p := true) (dt_cmp (od_eqA (hu_ hr)) (de_var 0) (de_str)) (dss_cons (ds_set (p := true) 5 sc_l_row_worst.nd (de_op od_fdiv (de_add (de_var 2) (de_int)) (de_int)))
    (dss_one (ds_ret (p := true) (de_ix (hu_ hr) (de_dispV (dps_cons (de_add (de_int) (de_var 5)) (dps_cons (de_add (de_int) (de_op od_fdiv (de_var 2) (de_int))) (dps_cons (de_add (de_add (de_int) (de_callTy ca_int (by rfl) (T.free 40) (by decide +kernel) (da_one (de_cmp od_gt (de_var 2) (de_int))))) (de_var 5)) (dps_nil))))) (de_var 1))))) (dss_nil))
    (dss_one (ds_ret (p := true) (de_ix (hu_ hr) (de_dispV (dps_cons (de_add (de_int) (de_callTy ca_int (by rfl) (T.free 40) (by decide +kernel) (da_one (de_cmp od_gt (de_var 2) (de_int))))) (dps_cons (de_add (de_add (de_int) (de_callB (ca_minA rfl (hu_ hr)) (by rfl) (T.free 44) (by decide +kernel) (da_cons (de_var 2) (da_one (de_int))))) (de_var 4)) (dps_cons (de_add (de_add (de_int) (de_callB (ca_minA rfl (hu_ hr)) (by rfl) (T.free 44) (by decide +kernel) (da_cons (de_var 3) (da_one (de_int))))) (de_var 4)) (dps_nil))))) (de_var 1))))))))
    (hfs := h_l_row_worst)
abbrev st_l_by_twos : Stmt := topS 49
abbrev nm_l_by_twos : List PySem.Str := ["_law_number", "_law_found_here"]
theorem sc_l_by_twos : FnScope nm_l_by_twos ["_law_number"] (defScope st_l_by_twos) := ⟨rfl, rfl, rfl, by decide +kernel, rfl, by decide +kernel, by decide +kernel⟩
theorem ok_l_by_twos (T : WorC fa fn ts cs w K mg) : Def P w K mg base 1 "_law_by_twos" ["_law_number"] [.v] (fs_l_by_twos K) :=
  T.def_ 28 (g := g_l_by_twos K) sc_l_by_twos (hbd := fun _ _ _ _ _ _ us hl => match us, hl with | [_], _ => rfl) (hmo := mo_l_by_twos)
    (hbody := fun f cdv A outer s H E hr hgd => dss_cons (ds_own (p := true) 1 sc_l_by_twos.nd (df_lst (an_nil)))
    (dss_cons (ds_while (p := true) (passes_of rfl) (dt_cmp od_gt (de_var 0) (de_int)) (dss_cons (ds_app (p := true) 1 (de_op od_mod (de_var 0) (de_int)))
    (dss_one (ds_set (p := true) 0 sc_l_by_twos.nd (de_op od_fdiv (de_var 0) (de_int))))))
    (dss_frz 1 (dss_one (ds_ret (p := true) (de_var 1))))))
    (hfs := h_l_by_twos)
abbrev st_l_figures : Stmt := topS 48
abbrev nm_l_figures : List PySem.Str := ["_law_number"]
theorem sc_l_figures : FnScope nm_l_figures ["_law_number"] (defScope st_l_figures) := ⟨rfl, rfl, rfl, by decide +kernel, rfl, by decide +kernel, by decide +kernel⟩
theorem ok_l_figures (T : WorC fa fn ts cs w K mg) : Def P w K mg base 2 "_law_figures" ["_law_number"] [.v] (fs_l_figures K) :=
  T.def_ 29 (g := g_l_figures K) sc_l_figures (hbd := fun _ _ _ _ _ _ us hl => match us, hl with | [_], _ => rfl) (hmo := mo_l_figures)
    (hbody := fun f cdv A outer s H E hr hgd => dss_one (ds_ret (p := true) (de_callB ca_len (by rfl) (T.free 42) (by decide +kernel) (da_one (dc_p ((ok_l_by_twos T)) hr hgd (dak_one (k := .v) (de_var 0)))))))
    (hfs := h_l_figures)
abbrev st_l_found_2 : Stmt := topS 50
abbrev nm_l_found_2 : List PySem.Str := ["_law_kind", "_law_s"]
theorem sc_l_found_2 : FnScope nm_l_found_2 ["_law_kind", "_law_s"] (defScope st_l_found_2) := ⟨rfl, rfl, rfl, by decide +kernel, rfl, by decide +kernel, by decide +kernel⟩
theorem ok_l_found_2 (T : WorC fa fn ts cs w K mg) : Def P w K mg base 3 "_law_found" ["_law_kind", "_law_s"] [.v, .v] (fs_l_found_2 K) :=
  T.def_ 30 (g := g_l_found_2 K) sc_l_found_2 (hbd := fun _ _ _ _ _ _ us hl => match us, hl with | [_, _], _ => rfl) (hmo := mo_l_found_2)
    (hbody := fun f cdv A outer s H E hr hgd => dss_cons (ds_if (p := true) (dt_cmp (od_eqA (hu_ hr)) (de_var 0) (de_str)) (dss_one (ds_ret (p := true) (de_add (de_add (de_int) (dc_p ((ok_l_figures T)) hr hgd (dak_one (k := .v) (de_var 1)))) (de_callTy ca_int (by rfl) (T.free 40) (by decide +kernel) (da_one (de_cmp od_gt (de_var 1) (de_int))))))) (dss_nil))
    (dss_one (ds_ret (p := true) (de_add (de_add (de_add (de_int) (dc_p ((ok_l_figures T)) hr hgd (dak_one (k := .v) (de_op od_fdiv (de_add (de_var 1) (de_int)) (de_int))))) (dc_p ((ok_l_figures T)) hr hgd (dak_one (k := .v) (de_callB (ca_minA rfl (hu_ hr)) (by rfl) (T.free 44) (by decide +kernel) (da_cons (de_var 1) (da_one (de_int))))))) (de_callTy ca_int (by rfl) (T.free 40) (by decide +kernel) (da_one (de_cmp od_gt (de_var 1) (de_int))))))))
    (hfs := h_l_found_2)
abbrev st_l_set_worst : Stmt := topS 51
abbrev nm_l_set_worst : List PySem.Str := ["_law_kind", "_law_word", "_law_s", "_law_u", "_law_found_here", "_law_moves", "_law_w"]
theorem sc_l_set_worst : FnScope nm_l_set_worst ["_law_kind", "_law_word", "_law_s"] (defScope st_l_set_worst) := ⟨rfl, rfl, rfl, by decide +kernel, rfl, by decide +kernel, by decide +kernel⟩
theorem ok_l_set_worst (T : WorC fa fn ts cs w K mg) : Def P w K mg base 4 "_law_set_worst" ["_law_kind", "_law_word", "_law_s"] [.v, .v, .v] (fs_l_set_worst K) :=
  T.def_ 31 (g := g_l_set_worst K) sc_l_set_worst (hbd := fun _ _ _ _ _ _ us hl => match us, hl with | [_, _, _], _ => rfl) (hmo := mo_l_set_worst)
    (hbody := fun f cdv A outer s H E hr hgd => dss_cons (ds_set (p := true) 3 sc_l_set_worst.nd (de_callB (ca_maxA rfl (hu_ hr)) (by rfl) (T.free 43) (by decide +kernel) (da_cons (de_int) (da_one (de_op od_sub (de_var 2) (de_int))))))
    (dss_cons (ds_if (p := true) (dt_cmp (od_in (hu_ hr)) (de_var 0) (de_lstN (an_cons (de_str) (an_cons (de_str) an_nil)))) (dss_cons (ds_set (p := true) 4 sc_l_set_worst.nd (dc_p ((ok_l_found_2 T)) hr hgd (dak_cons (k := .v) (de_var 0) (dak_one (k := .v) (de_var 2)))))
    (dss_cons (ds_if (p := true) (dt_cmp (od_eqA (hu_ hr)) (de_var 1) (de_str)) (dss_one (ds_ret (p := true) (de_op od_sub (de_var 4) (de_callTy ca_int (by rfl) (T.free 40) (by decide +kernel) (da_one (de_cmp od_gt (de_var 2) (de_int))))))) (dss_nil))
    (dss_cons (ds_set (p := true) 5 sc_l_set_worst.nd (de_dispV (dps_cons (de_add (de_int) (de_var 2)) (dps_cons (de_var 3) (dps_nil)))))
    (dss_cons (ds_if (p := true) (dt_cmp (od_eqA (hu_ hr)) (de_var 0) (de_str)) (dss_cons (ds_set (p := true) 6 sc_l_set_worst.nd (de_callB (ca_maxA rfl (hu_ hr)) (by rfl) (T.free 43) (by decide +kernel) (da_cons (de_int) (da_one (de_op od_sub (de_op od_fdiv (de_add (de_var 2) (de_int)) (de_int)) (de_int))))))
    (dss_one (ds_set (p := true) 5 sc_l_set_worst.nd (de_dispV (dps_cons (de_add (de_add (de_int) (de_callB (ca_minA rfl (hu_ hr)) (by rfl) (T.free 44) (by decide +kernel) (da_cons (de_var 2) (da_one (de_int))))) (de_var 6)) (dps_cons (de_add (de_callB (ca_minA rfl (hu_ hr)) (by rfl) (T.free 44) (by decide +kernel) (da_cons (de_var 3) (da_one (de_int)))) (de_var 6)) (dps_nil))))))) (dss_nil))
    (dss_one (ds_ret (p := true) (de_add (de_var 4) (de_dget2 (hu_ hr) (de_var 5) (de_var 1) (de_int))))))))) (dss_nil))
    (dss_cons (ds_if (p := true) (dt_cmp (od_in (hu_ hr)) (de_var 1) (de_lstN (an_cons (de_str) (an_cons (de_str) an_nil)))) (dss_one (ds_ret (p := true) (de_add (de_add (de_int) (de_var 2)) (de_op od_mulI (de_int) (de_callTy ca_int (by rfl) (T.free 40) (by decide +kernel) (da_one (de_cmp (od_eqA (hu_ hr)) (de_var 0) (de_str)))))))) (dss_nil))
    (dss_cons (ds_if (p := true) (dt_cmp (od_eqA (hu_ hr)) (de_var 0) (de_str)) (dss_one (ds_ret (p := true) (de_ix (hu_ hr) (de_dispV (dps_cons (de_add (de_int) (de_op od_mulI (de_int) (de_var 2))) (dps_cons (de_add (de_add (de_int) (de_var 2)) (de_var 3)) (dps_cons (de_add (de_int) (de_var 2)) (dps_nil))))) (de_var 1)))) (dss_nil))
    (dss_one (ds_ret (p := true) (de_add (de_add (de_int) (de_var 2)) (de_callTy ca_int (by rfl) (T.free 40) (by decide +kernel) (da_one (de_cmp (od_eqA (hu_ hr)) (de_var 1) (de_str)))))))))))
    (hfs := h_l_set_worst)
abbrev st_l_worst : Stmt := topS 53
abbrev nm_l_worst : List PySem.Str := ["_law_sort", "_law_kind", "_law_word", "_law_s", "_law_key"]
theorem sc_l_worst : FnScope nm_l_worst ["_law_sort", "_law_kind", "_law_word", "_law_s"] (defScope st_l_worst) := ⟨rfl, rfl, rfl, by decide +kernel, rfl, by decide +kernel, by decide +kernel⟩
theorem ok_l_worst (T : WorC fa fn ts cs w K mg) : Def P w K mg base 5 "_law_worst" ["_law_sort", "_law_kind", "_law_word", "_law_s"] [.v, .v, .v, .v] (fs_l_worst K) :=
  T.def_ 32 (g := g_l_worst K) sc_l_worst (hbd := fun _ _ _ _ _ _ us hl => match us, hl with | [_, _, _, _], _ => rfl) (hmo := mo_l_worst)
    (hbody := fun f cdv A outer s H E hr hgd => dss_cons (ds_if (p := true) (dt_cmp (od_eqA (hu_ hr)) (de_var 0) (de_str)) (dss_one (ds_ret (p := true) (dc_p ((ok_l_row_worst T).mono (n := 4)) hr hgd (dak_cons (k := .v) (de_var 1) (dak_cons (k := .v) (de_var 2) (dak_one (k := .v) (de_var 3))))))) (dss_nil))
    (dss_cons (ds_if (p := true) (dt_cmp (od_eqA (hu_ hr)) (de_var 0) (de_str)) (dss_one (ds_ret (p := true) (dc_p ((ok_l_set_worst T)) hr hgd (dak_cons (k := .v) (de_var 1) (dak_cons (k := .v) (de_var 2) (dak_one (k := .v) (de_var 3))))))) (dss_nil))
    (dss_cons (ds_set (p := true) 4 sc_l_worst.nd (de_ix (hu_ hr) (de_dispV (dps_cons (de_str) (dps_cons (de_str) (dps_cons (de_str) (dps_cons (de_str) (dps_nil)))))) (de_var 2)))
    (dss_one (ds_ret (p := true) (de_add (dc_p ((ok_l_set_worst T)) hr hgd (dak_cons (k := .v) (de_var 1) (dak_cons (k := .v) (de_var 4) (dak_one (k := .v) (de_var 3))))) (de_callTy ca_int (by rfl) (T.free 40) (by decide +kernel) (da_one (de_cmp (od_eqA (hu_ hr)) (de_var 2) (de_str))))))))))
    (hfs := h_l_worst)
abbrev st_l_sizes : Stmt := topS 54
abbrev nm_l_sizes : List PySem.Str := ["_law_word", "_law_s", "_law_one"]
theorem sc_l_sizes : FnScope nm_l_sizes ["_law_word", "_law_s"] (defScope st_l_sizes) := ⟨rfl, rfl, rfl, by decide +kernel, rfl, by decide +kernel, by decide +kernel⟩
theorem ok_l_sizes (T : WorC fa fn ts cs w K mg) : Def P w K mg base 1 "_law_sizes" ["_law_word", "_law_s"] [.v, .v] (fs_l_sizes K) :=
  T.def_ 33 (g := g_l_sizes K) sc_l_sizes (hbd := fun _ _ _ _ _ _ us hl => match us, hl with | [_, _], _ => rfl) (hmo := mo_l_sizes)
    (hbody := fun f cdv A outer s H E hr hgd => dss_cons (ds_if (p := true) (dt_cmp (od_in (hu_ hr)) (de_var 0) (de_lstN (an_cons (de_str) (an_cons (de_str) an_nil)))) (dss_one (ds_ret (p := true) (de_tupleS (by rfl) (T.free 48) (da_one ((df_comp (own := [("_law_one", 2)]) rfl sc_l_sizes.nd (di_seq (de_tupN (an_cons (de_var 1) (an_cons (de_add (de_var 1) (de_int)) an_nil)))) (blkOk_by (N := nm_l_sizes) (sc := defScope st_l_sizes) (by decide +kernel)) (fun _ _ _ _ _ => dt_name 2 sc_l_sizes.nd) (fun _ _ _ _ _ => dtts_one (dt_cmp od_gt (de_var 2) (de_int))) (fun _ _ _ _ _ => de_var 2)).de))))) (dss_nil))
    (dss_cons (ds_if (p := true) (dt_cmp (od_in (hu_ hr)) (de_var 0) (de_lstN (an_cons (de_str) (an_cons (de_str) (an_cons (de_str) an_nil))))) (dss_one (ds_ret (p := true) (de_tupleS (by rfl) (T.free 48) (da_one ((df_comp (own := [("_law_one", 2)]) rfl sc_l_sizes.nd (di_seq (de_tupN (an_cons (de_op od_sub (de_var 1) (de_int)) (an_cons (de_var 1) an_nil)))) (blkOk_by (N := nm_l_sizes) (sc := defScope st_l_sizes) (by decide +kernel)) (fun _ _ _ _ _ => dt_name 2 sc_l_sizes.nd) (fun _ _ _ _ _ => dtts_one (dt_cmp od_ge (de_var 2) (de_int))) (fun _ _ _ _ _ => de_var 2)).de))))) (dss_nil))
    (dss_one (ds_ret (p := true) (de_tupN (an_cons (de_add (de_var 1) (de_callTy ca_int (by rfl) (T.free 40) (by decide +kernel) (da_one (de_cmp (od_eqA (hu_ hr)) (de_var 0) (de_str))))) an_nil))))))
    (hfs := h_l_sizes)
abbrev st_l_right_14 : Stmt := topS 60
abbrev nm_l_right_14 : List PySem.Str := ["_law_state", "_law_sort", "_law_kind", "_law_word", "_law_size", "_law_turn", "_law_way", "_law_some", "_law_odd", "_law_due_here", "_law_told", "_law_every", "_law_k", "_law_one"]
theorem sc_l_right_14 : FnScope nm_l_right_14 ["_law_state"] (defScope st_l_right_14) := ⟨rfl, rfl, rfl, by decide +kernel, rfl, by decide +kernel, by decide +kernel⟩
theorem ok_l_right_14 (T : WorC fa fn ts cs w K mg) (TB : TBS K mg base xsL) : Def P w K mg base 7 "_law_right" ["_law_state"] [.v] (fs_l_right_14 K) :=
  T.defT_ 34 (g := g_l_right_14 K) sc_l_right_14 (hbd := fun _ _ _ _ _ _ us hl => match us, hl with | [_], _ => rfl) (hmo := mo_l_right_14)
    (hbody := fun f cdv hcd A outer s H E hr hgd => dss_cons (ds_set (p := false) 1 sc_l_right_14.nd (dc_m ((ok_l_pick T).mono (n := 6)) hr hgd (dak_cons (k := .v) (de_var 0) (dak_one (k := .v) (de_lstN (an_cons (de_str) (an_cons (de_str) (an_cons (de_str) an_nil))))))))
    (dss_cons (ds_asg (p := false) (de_tupN (an_cons (dc_m ((ok_l_pick T).mono (n := 6)) hr hgd (dak_cons (k := .v) (de_var 0) (dak_one (k := .v) (dc_p ((ok_l_all_kinds T).mono (n := 6)) hr hgd (dak_one (k := .v) (de_var 1)))))) (an_cons (dc_m ((ok_l_pick T).mono (n := 6)) hr hgd (dak_cons (k := .v) (de_var 0) (dak_one (k := .v) (dc_p ((ok_l_words_3 T).mono (n := 6)) hr hgd (dak_one (k := .v) (de_var 1)))))) an_nil))) (dt_tup rfl (dts_cons (dt_name 2 sc_l_right_14.nd) (dts_cons (dt_name 3 sc_l_right_14.nd) dts_nil))))
    (dss_cons (ds_set (p := false) 4 sc_l_right_14.nd (dc_m ((ok_l_pick T).mono (n := 6)) hr hgd (dak_cons (k := .v) (de_var 0) (dak_one (k := .v) (de_lstN (an_cons (dc_m ((ok_l_take T).mono (n := 6)) hr hgd (dak_cons (k := .v) (de_var 0) (dak_one (k := .v) (de_int)))) (an_cons (dc_m ((ok_l_take T).mono (n := 6)) hr hgd (dak_cons (k := .v) (de_var 0) (dak_one (k := .v) (de_int)))) (an_cons (de_int) (an_cons (de_int) (an_cons (de_int) (an_cons (de_int) (an_cons (de_int) an_nil))))))))))))
    (dss_cons (ds_for (p := false) (passes_of rfl) rfl (di_range1 (by rfl) (T.free 45) (da_one (dc_m ((ok_l_pick T).mono (n := 6)) hr hgd (dak_cons (k := .v) (de_var 0) (dak_one (k := .v) (de_lstN (an_cons (de_int) (an_cons (de_int) (an_cons (de_int) (an_cons (de_int) an_nil)))))))))) (dt_name 5 sc_l_right_14.nd) (dss_cons (ds_set (p := false) 6 sc_l_right_14.nd (dc_m ((ok_l_take T).mono (n := 6)) hr hgd (dak_cons (k := .v) (de_var 0) (dak_one (k := .v) (de_int)))))
    (dss_cons (ds_set (p := true) 7 sc_l_right_14.nd (de_lstN (an_cons (de_str) (an_cons (de_str) (an_cons (de_str) (an_cons (de_str) (an_cons (de_str) (an_cons (de_str) (an_cons (de_str) (an_cons (de_str) (an_cons (de_str) (an_cons (de_non) (an_cons (de_int) (an_cons (de_bl) (an_cons (de_tupN (an_cons (de_str) an_nil)) (an_cons (de_lstN (an_nil)) an_nil))))))))))))))))
    (dss_cons (ds_set (p := false) 8 sc_l_right_14.nd (dc_m ((ok_l_pick T).mono (n := 6)) hr hgd (dak_cons (k := .v) (de_var 0) (dak_one (k := .v) (de_var 7)))))
    (dss_cons (ds_if (p := true) (dt_cmp (od_eqA (hu_ hr)) (de_var 6) (de_int)) (dss_one (ds_set (p := false) 8 sc_l_right_14.nd (dc_m ((ok_l_pick T).mono (n := 6)) hr hgd (dak_cons (k := .v) (de_var 0) (dak_one (k := .v) (de_lstN (an_cons (de_un ud_neg (de_int)) (an_cons (de_int) (an_cons (de_bl) (an_cons (de_bl) (an_cons (de_non) (an_cons (de_str) (an_cons (de_tupN (an_cons (de_int) an_nil)) (an_cons (de_op od_pow (de_int) (de_int)) (an_cons (de_int) an_nil))))))))))))))) (dss_nil))
    (dss_one (ds_asg (p := true) ((df_comp (own := [("_law_k", 12), ("_law_one", 13)]) rfl sc_l_right_14.nd (di_enum (by rfl) (T.free 39) (de_lstN (an_cons (de_var 1) (an_cons (de_var 2) (an_cons (de_var 3) (an_cons (de_var 4) an_nil)))))) (blkOk_by (N := nm_l_right_14) (sc := defScope st_l_right_14) (by decide +kernel)) (fun _ _ _ _ _ => dt_tup rfl (dts_cons (dt_name 12 sc_l_right_14.nd) (dts_cons (dt_name 13 sc_l_right_14.nd) dts_nil))) (fun _ _ _ _ _ => dtts_nil) (fun _ _ _ _ _ => de_if (dt_cmp (od_eqA (hu_ hr)) (de_var 6) (de_var 12)) (de_var 8) (de_var 13))).de) (dt_lst rfl (dts_cons (dt_name 1 sc_l_right_14.nd) (dts_cons (dt_name 2 sc_l_right_14.nd) (dts_cons (dt_name 3 sc_l_right_14.nd) (dts_cons (dt_name 4 sc_l_right_14.nd) dts_nil))))))))))))
    (dss_cons (ds_set (p := true) 9 sc_l_right_14.nd (dc_p ((ok_l_due_10 T).mono (n := 6)) hr hgd (dak_cons (k := .v) (de_var 1) (dak_cons (k := .v) (de_var 2) (dak_cons (k := .v) (de_var 3) (dak_one (k := .v) (de_var 4)))))))
    (dss_cons (ds_if (p := false) (dt_cmp (od_neA (hu_ hr)) (de_callG (X := cxOf (L2.CX P w) P w K mg base nm_l_right_14 "_law_right" (defScope st_l_right_14) f cdv A outer s H E) (n := 4) ((ok_l_refusal T).mono (n := 6)) hr hgd (TB.1 _ (List.mem_cons_self ..)) (hcd ((T.cod 5).1 _ (List.mem_cons_self ..)).1) (LamX.lamS_by (by kernel_rfl)) (dak_nil) (fun A outer s H Ex _ _ hr hgd => dc_p ((ok_p_worst T)) hr hgd (dak_cons (k := .v) (de_var 1) (dak_cons (k := .v) (de_var 2) (dak_cons (k := .v) (de_var 3) (dak_one (k := .v) (de_var 4)))))) (fun _ _ _ _ _ => rfl)) (de_var 9)) (dss_one (ds_ret (p := true) (de_bl))) (dss_nil))
    (dss_cons (ds_if (p := true) (dt_cmp (od_eqA (hu_ hr)) (de_var 9) (de_str)) (dss_cons (ds_set (p := true) 10 sc_l_right_14.nd (de_callB (ca_reprA (hu_ hr) hgd TB.2) (by rfl) (T.free 46) (by decide +kernel) (da_one (dc_p ((ok_p_worst T).mono (n := 6)) hr hgd (dak_cons (k := .v) (de_var 1) (dak_cons (k := .v) (de_var 2) (dak_cons (k := .v) (de_var 3) (dak_one (k := .v) (de_var 4)))))))))
    (dss_one (ds_if (p := true) (dt_cmp (od_neA (hu_ hr)) (de_var 10) (de_callB (ca_reprA (hu_ hr) hgd TB.2) (by rfl) (T.free 46) (by decide +kernel) (da_one (dc_p ((ok_l_worst T).mono (n := 6)) hr hgd (dak_cons (k := .v) (de_var 1) (dak_cons (k := .v) (de_var 2) (dak_cons (k := .v) (de_var 3) (dak_one (k := .v) (de_var 4))))))))) (dss_one (ds_ret (p := true) (de_bl))) (dss_nil)))) (dss_nil))
    (dss_cons (ds_set (p := true) 11 sc_l_right_14.nd (de_add (de_add (dc_p ((ok_l_words_3 T).mono (n := 6)) hr hgd (dak_one (k := .v) (de_str))) (dc_p ((ok_l_words_3 T).mono (n := 6)) hr hgd (dak_one (k := .v) (de_str)))) (dc_p ((ok_l_words_3 T).mono (n := 6)) hr hgd (dak_one (k := .v) (de_str)))))
    (dss_cons (ds_if (p := true) ((dw_or (dt_not (dt_tru (dc_p ((ok_l_is_size T).mono (n := 6)) hr hgd (dak_cons (k := .v) (de_var 4) (dak_one (k := .v) (de_int)))))) (dw_or1 (dt_cmp (od_notin (hu_ hr)) (de_var 3) (de_var 11)))).dt) (dss_one (ds_ret (p := false) (de_cmp (od_eqA (hu_ hr)) (de_callG (X := cxOf (L2.CX P w) P w K mg base nm_l_right_14 "_law_right" (defScope st_l_right_14) f cdv A outer s H E) (n := 4) ((ok_l_refusal T).mono (n := 6)) hr hgd (TB.1 _ (List.mem_cons_self ..)) (hcd ((T.cod 5).1 _ (List.mem_cons_self ..)).1) (LamX.lamS_by (by kernel_rfl)) (dak_nil) (fun A outer s H Ex _ _ hr hgd => dc_p ((ok_p_sizes T).mono (n := 4)) hr hgd (dak_cons (k := .v) (de_var 3) (dak_one (k := .v) (de_var 4)))) (fun _ _ _ _ _ => rfl)) (de_str)))) (dss_nil))
    (dss_cons (ds_setC (p := true) 10 (own := [("_law_turn", 5)]) rfl sc_l_right_14.nd (di_range1 (by rfl) (T.free 45) (da_one (de_int))) (blkOk_by (N := nm_l_right_14) (sc := defScope st_l_right_14) (by decide +kernel)) (fun _ _ _ _ _ => dt_name 5 sc_l_right_14.nd) (fun _ _ _ _ _ => dtts_nil) (fun _ _ _ _ _ => de_callB (ca_reprA (hu_ hr) hgd TB.2) (by rfl) (T.free 46) (by decide +kernel) (da_one (dc_p ((ok_p_sizes T).mono (n := 6)) hr hgd (dak_cons (k := .v) (de_var 3) (dak_one (k := .v) (de_var 4)))))))
    (dss_one (ds_ret (p := true) (de_cmp (od_eqA (hu_ hr)) (de_var 10) (de_mulL (de_lstN (an_cons (de_callB (ca_reprA (hu_ hr) hgd TB.2) (by rfl) (T.free 46) (by decide +kernel) (da_one (dc_p ((ok_l_sizes T).mono (n := 6)) hr hgd (dak_cons (k := .v) (de_var 3) (dak_one (k := .v) (de_var 4)))))) an_nil)) (de_int)))))))))))))))
    (hfs := h_l_right_14)
abbrev st_law_k75 : Stmt := topS 61
abbrev nm_law_k75 : List PySem.Str := ["_law_script", "_law_state", "_law_turn"]
theorem sc_law_k75 : FnScope nm_law_k75 ["_law_script"] (defScope st_law_k75) := ⟨rfl, rfl, rfl, by decide +kernel, rfl, by decide +kernel, by decide +kernel⟩
theorem ok_law (T : WorC fa fn ts cs w K mg) : ∃ f fd, mg "law" = some (.ref f) ∧ (∀ (s : Shared) (u : Value), BindsTo s fd ⟨[u], []⟩ [("_law_script", u)]) ∧ ∀ base : Heap, TBS K mg base xsL → FnG P w K mg base 8 f fd ["_law_script"] (toSp K [.s] (fs_law_k75 K)) :=
  T.lawS_ (xs := xsL) 35 (g := g_law_k75 K) sc_law_k75 (hbd := fun _ _ _ _ _ _ us hl => match us, hl with | [_], _ => rfl)
    (hbody := fun base TB f cdv hcd A outer s H E hr hgd => dss_cons (ds_set (p := false) 1 sc_law_k75.nd (dc_m ((ok_l_begun T).mono (n := 7)) hr hgd (dak_scr 0)))
    (dss_cons (ds_for (p := true) (passes_of rfl) rfl (di_range1 (by rfl) (T.free 45) (da_one (de_add (de_int) (de_callB (ca_minA rfl (hu_ hr)) (by rfl) (T.free 44) (by decide +kernel) (da_cons (de_lenS 0 (by rfl) (T.free 42)) (da_one (de_int))))))) (dt_name 2 sc_law_k75.nd) (dss_one (ds_if (p := false) (dt_not (dt_tru (dc_m ((ok_l_right_14 T TB)) hr hgd (dak_one (k := .v) (de_var 1))))) (dss_one (ds_ret (p := true) (de_bl))) (dss_nil))))
    (dss_one (ds_ret (p := true) (de_bl)))))
    (hfs := h_law_k75)
end
end LW
namespace LW
open PySem PySem.Spec PySem.W PyProof.Rows L2 DL
abbrev hk : PySem.W.Hook := He.hookX 5 fa fn ts [] (fun K => cs.all (Ck.ok K))
end LW
open PySem PySem.W PySem.Calls PyProof.Rows
set_option maxHeartbeats 0 in
theorem PySem.Challenge.cw_turnshelf_k75_worsts_told_holds : PySem.Challenge.rw_turnshelf_k75_worsts_told.Holds := by
  w_on; o_law
  o_head LW.hk
  case hw => w_witness2
  refine DL.walk_ofS (l := PySem.Challenge.rw_turnshelf_k75_worsts_told) (n := 63) (k := 8) (x := "_law_script") LW.xsL rfl (by decide) ?_ ⟨rfl, by decide, by decide⟩ ?I ?H ?F
  case I => kernel_rfl
  case H => kernel_rfl
  case F =>
    intro w mg fa h Y G hmg0
    obtain ⟨K, kin, c⟩ := Y
    have hmg : mg ("law" : PySem.Str) = some (.ref fa) := by
      exact hmg0
    have T : DL.WorC LW.fa LW.fn LW.ts LW.cs w K mg := DL.WorC.mk (DL.WorT.mk (DL.Wor.mk ⟨h, kin, G⟩ c.t.d) c.t) c.more
    obtain ⟨f, fd, e, hb, hF⟩ := LW.ok_law (P := (PySem.Challenge.rw_turnshelf_k75_worsts_told).prog) (w := w) T
    rw [e] at hmg
    cases hmg
    exact ⟨K, fd, DL.toSp K [.s] (LW.fs_law_k75 K), kin, (T.cod 5).1, hb, fun H a zs hl hO hS => DL.only_scrT hO hS ⟨zs, rfl, hl, DL.MT_at (T.cod 5).2 (List.mem_cons_self ..), fun _ => rfl⟩ LW.mo_law_k75, fun base _ _ tb => hF base tb⟩
  rfl
