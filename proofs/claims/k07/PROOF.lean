import PyProof.Rows.All
import Wide.All
import OpenK.AllK
import Wide.FinOn
import KE.KStateDown
import Lean
import HandS.Head0
import HandS.Head1
import HandS.Head2
import HandS.HeadEnd
import HandS.HeadHook1
import HandS.HeadHook2
import HandS.HeadHook3
import HandS.HeadHook4
import HandS.ForMost
import HandS.Deep
import HandS.ForExc
import HandS.Iter
import HandS.Zip
import HandS.Rev
import HandS.Conv
import HandS.TupAny
import HandS.TupMul
import KE.KIndexOf
import HandS.Wide
import HandS.IsInst
import HandS.Style
import HandS.Defaults
import HandS.HeadNt
import HandS.Dict
import KE.GoesMore
import PyProof.SeqIndex
import PyProof.ReprRoads
import KE.DataMinMax
import KE.KRevSl
import PyProof.ReprLen
import HandS.More
import HandS.SortKw
import HandS.SetFor
import HandS.SortInts
import HandS.SortOrd
import PyProof.Rows.SortShell
import PyProof.SumWalkG
import KE.KIsAll
import HandS.Exc
import HandS.ExcIs
import HandS.ExcValue
import KE.KSliceW
import PySem.Challenge.RW_turnshelf_k07_whole_sets_walked
set_option Elab.async false
set_option linter.all false
set_option maxRecDepth 100000
set_option Elab.async false
set_option linter.all false
set_option maxRecDepth 100000
/-! DL0: tuples whose object is known (no attributes of their own). -/
namespace DL
open PySem PySem.Spec PyProof.Rows L2
section
variable {X : Cx} {pins : List (Addr × Obj)} {σ : L2.St} {H : Hp} {s : Shared} {Q : VK} {vs : List V} {us : List Value} {es : List Expr} {t : TA} {pos : Pos}
def Fz (Q : VK) (H : Hp) (vs : List V) : Prop := ∀ p o, o.dict = none → H p = none → Q (.ref p) (upd H p (.frz o (.tup vs)))
theorem laid_fz {k : Nat} (I : Inv X pins σ H s) (r : Vals vs us) (hz : vs.length ≤ sizeLine) (h : Fz Q H vs) :
    EP X pins σ Q (.ref s.heap.objs.size) { s with toks := k, heap := s.heap.push { cls := .type "tuple", data := .seq us.toArray } } :=
  ⟨.ref s.heap.objs.size, _, I.laid (fun b u q => Heap.get?_push_of_some _ q) (Nat.le_refl _) (o := .frz _ (.tup vs)) ⟨Heap.get?_push_size _ rfl, hz, us, r, IsTup.new _ _⟩, rfl, h _ _ rfl (I.hok.fresh (Nat.le_refl _))⟩
def tTupF (t : TA) : TE := fun σ H Q => t σ H fun xs H1 => xs.length ≤ sizeLine ∧ Fz Q H1 xs
theorem pe_tupF {x1} (h : PA X es t) : PE X (.Tuple es x1 pos) (tTupF t) :=
  ⟨fun pins s σ H Q I hq => wpAny_Tuple_spliced (thn (h.run pos pins s σ H _ I hq) fun us s1 ⟨xs, H1, I1, r, z, q⟩ => ⟨by rw [← r.length]; exact z, laid_fz (k := s1.toks) I1 r z q⟩)⟩
/-- t + u -/
def rCatF (K : PySem.W.Frag) : R2 := fun x y H Q => ∃ a b xs ys, x = .ref a ∧ y = .ref b ∧ SqT K H a xs ∧ SqT K H b ys ∧ xs.length + ys.length ≤ sizeLine ∧
  (xs = [] → Q (.ref b) H) ∧ (xs ≠ [] → ys = [] → Q (.ref a) H) ∧ (xs ≠ [] → ys ≠ [] → Fz Q H (xs ++ ys))
theorem op_catF : OpR X (binaryOp .Add) (rCatF X.K) := by
  intro pins s σ H x y v u Q I rx ry h
  obtain ⟨a, b, xs, ys, rfl, rfl, ha, hb, hz, q0, q1, q2⟩ := h
  by_cases hx : xs = []
  · exact op_catA pins s σ H _ _ v u Q I rx ry ⟨a, b, xs, ys, rfl, rfl, ha, hb, hz, q0, q1, fun z => absurd hx z⟩
  · by_cases hy : ys = []
    · exact op_catA pins s σ H _ _ v u Q I rx ry ⟨a, b, xs, ys, rfl, rfl, ha, hb, hz, q0, q1, fun _ z => absurd hy z⟩
    · cases rx
      cases ry
      obtain ⟨its, r1, p1, _⟩ := I.tuple ha
      obtain ⟨its2, r2, p2, _⟩ := I.tuple hb
      refine HT.cat_tup p1 p2 (fun z => hx (r1.nil_iff.mp z)) (fun z => absurd (r2.nil_iff.mp z) hy) (fun z => ?_) (by rw [← r1.length, ← r2.length]; exact hz)
      exact laid_fz (k := s.toks) I (r1.append r2) (by rw [List.length_append]; exact hz) (q2 hx hy)
/-- t[lo:hi] -/
def rSlF (K : PySem.W.Frag) : V → Option Int → Option Int → Hp → VK → Prop := fun x lo hi H Q => ∃ a xs, x = .ref a ∧ SqT K H a xs ∧
  (HT.sIx xs.length 0 lo = 0 ∧ HT.sIx xs.length xs.length hi = xs.length → Q (.ref a) H) ∧ (¬ (HT.sIx xs.length 0 lo = 0 ∧ HT.sIx xs.length xs.length hi = xs.length) → Fz Q H (cutV xs lo hi))
theorem sl_tupF : SlR X (rSlF X.K) := by
  intro pins s σ H x v vl vu lo hi sl Q I rx hs pl pu h
  obtain ⟨a, xs, rfl, hx, q1, q2⟩ := h
  by_cases hw : HT.sIx xs.length 0 lo = 0 ∧ HT.sIx xs.length xs.length hi = xs.length
  · exact sl_tupA pins s σ H _ v vl vu lo hi sl Q I rx hs pl pu ⟨a, xs, rfl, hx, q1, fun z => absurd hw z⟩
  · cases rx
    obtain ⟨its, r, ht, hz⟩ := I.tuple hx
    have hlen : its.toArray.size = xs.length := by rw [List.size_toArray]; exact r.length.symm
    refine ⟨"tuple", _, PyProof.Rows.slot_tuple_getitem.lookup, ht.typeIs, ?_⟩
    refine HT.getItem_tuple_cut ht hs pl pu (by rw [hlen]; exact hw) ?_ (by rw [hlen]; exact hz)
    rw [hlen]
    exact laid_fz (k := s.toks) I ((r.drop (HT.sIx xs.length 0 lo)).take (HT.sIx xs.length xs.length hi - HT.sIx xs.length 0 lo)) (Nat.le_trans (cutV_length xs lo hi) hz) (q2 hw)
/-- tuple(xs) -/
theorem call_tuple_ofF : CallR X (.type "tuple") (fun xs H Q => ∃ p ys, xs = [.ref p] ∧ ((SqL X.K H p ys ∧ Fz Q H ys) ∨ (SqT X.K H p ys ∧ Q (.ref p) H))) := by
  intro pins s σ H xs us Q I r h
  obtain ⟨p, ys, rfl, ⟨hq, q⟩ | ⟨hq, q⟩⟩ := h
  · obtain ⟨u, rfl, rx⟩ := vals1 r
    cases rx
    obtain ⟨its, r', pl, hz⟩ := I.list hq
    have hlen := r'.length
    refine call_tuple_list pl.isList (fun h' kp => ?_) (by simp only [List.size_toArray] <;> omega)
    exact laid_fz (k := s.toks) (s := { s with heap := h' }) (I.kept (t' := s.toks) kp) r' hz q
  · exact call_tuple_of pins s σ H _ us Q I r ⟨p, ys, rfl, .inr ⟨hq, q⟩⟩
/-- t * k -/
theorem mul_decl {v : Value} {l : Addr} {k : Int} {t : Tok} {s : Shared} {its : Array Value} {n : Nat} {dd : Option Addr} {sl : Array (Option Value)} {Q : Value → Shared → Prop} {Ex : Value → Shared → Prop} {A : Around}
    (ho : s.heap.get? l = some { cls := .type "tuple", dict := dd, data := .seq its n, slots := sl }) (h : wpAny (model X.prog X.w) A (call (.builtin "tuple.__mul__") [.ref l, .int k t]) Q Ex s) :
    wpAny (model X.prog X.w) A (binaryOp .Mult (.ref l) (.int k t)) Q Ex s :=
  wpAny_binaryOp_repeat_ref (T := "tuple") (U := "int") (by decide) ⟨_, ho, rfl⟩ (fun s' => typeIs_int s' k t) noFill_tuple_mul F.fills_int_mul F.slot_int_rmul repeat_tuple F.slot_int_index.lookup
    (call_meets F.slot_int_rmul (typeIs_int s k t) F.entry_int_rmul (F.args_int_rmul_2 _ _) (int_rmul_tuple k t l its n dd sl) ⟨ho, rfl, ⟨_, ho, rfl⟩, h⟩)
def rRepF (K : PySem.W.Frag) : R2 := fun x y H Q => ∃ l k xs, x = .ref l ∧ y = .int k ∧ SqT K H l xs ∧ xs ≠ [] ∧ 2 ≤ k ∧ k ≤ 1000 ∧ xs.length ≤ 1000 ∧ Fz Q H (List.replicate k.toNat xs).flatten
theorem op_repF : OpR X (binaryOp .Mult) (rRepF X.K) := by
  intro pins s σ H x y v u Q I rx ry h
  obtain ⟨l, k, xs, rfl, rfl, hT, hne, h1, h2, hz, q⟩ := h
  cases rx
  obtain ⟨t, rfl⟩ := ry
  obtain ⟨its, r, ⟨⟨cls, dd, data, sl⟩, ho, hc, n, hd⟩, hs⟩ := I.tuple hT
  simp only at hc hd
  subst hc hd
  have hle : its.length = xs.length := r.length.symm
  have hi : its.toArray.isEmpty = false := by
    cases its with
    | nil => cases r; exact absurd rfl hne
    | cons a b => rfl
  have hb := Nat.mul_le_mul (show k.toNat ≤ 1000 by omega) hz
  have hm : ((its.toArray.size : Nat) : Int) * k ≤ 1000000 := by
    have e : ((its.toArray.size : Nat) : Int) * k = ((k.toNat * xs.length : Nat) : Int) := by
      rw [List.size_toArray, hle, Int.mul_comm, Int.natCast_mul, Int.toNat_of_nonneg (by omega)]
    rw [e]; omega
  have flen : (List.replicate k.toNat its).flatten.length ≤ sizeLine := by
    rw [PyProof.Rows.lm_len_rep_flat, hle, sizeLine_eq]
    omega
  refine mul_decl (v := .none) ho (call_meets F.slot_tuple_mul ⟨_, ho, rfl⟩ F.entry_tuple_mul (F.args_tuple_mul_2 _ _) (tuple_mulW l its.toArray n dd sl k t ?_ ?_ ?_ (by omega) ?_ (by rw [size_rep, List.size_toArray]; exact flen)) ⟨ho, ?_⟩)
  · rw [decide_eq_false (by omega), decide_eq_false (by omega)]; rfl
  · rw [hi, Bool.false_or]; exact beq_eq_false_iff_ne.mpr (by omega)
  · rw [hi, Bool.or_false]; exact decide_eq_false (by omega)
  · unfold Builtin.Tuple.tupleTooMany
    rw [sizeLine_eq]
    exact decide_eq_false (by omega)
  · rw [size_rep]
    exact laid_fz (k := s.toks) I (r.rep k.toNat) (by rw [PyProof.Rows.lm_len_rep_flat, sizeLine_eq]; omega) q
/-! ### pairs of iterators -/
/-- enumerate of a list -/
def IteF (K : PySem.W.Frag) (a : Addr) : It where
  go := fun i H => ∃ (xs : List V) (x : V), SqL K H a xs ∧ xs[i]? = some x
  yld := fun i H v H' => ∃ T o x, v = .ref T ∧ o.dict = none ∧ H T = none ∧ H' = upd H T (.frz o (.tup [.int (i : Nat), x])) ∧ ∀ xs, SqL K H a xs → xs[i]? = some x
  stop := fun i H => ∃ xs : List V, SqL K H a xs ∧ xs.length ≤ i
theorem turn_enumF {P : Program} {w : World} {K : PySem.W.Frag} {elts : List Expr} {kk : Nat} {tpos : Pos} (a e it : Addr) :
    Turn P w K (.Tuple elts kk tpos) (IteF K a) [e, it] e (fun i h => (∃ old, IsEnum h e it ((i : Nat) : Int) old) ∧ h.IsListIter it a i ∧ e ≠ it) where
  mem := (turn_enum (P := P) (w := w) (K := K) (elts := elts) (kk := kk) (tpos := tpos) a e it).mem
  obj := (turn_enum (P := P) (w := w) (K := K) (elts := elts) (kk := kk) (tpos := tpos) a e it).obj
  keep := (turn_enum (P := P) (w := w) (K := K) (elts := elts) (kk := kk) (tpos := tpos) a e it).keep
  item := by
    intro X hP hw hK hc i pins s σ H E I hf st hg
    subst hP hw hK
    have lt : ∀ b ∈ [e, it], b < s.heap.objs.size := fun b hb => by
      obtain ⟨o, ho, _⟩ := (turn_enum (P := X.prog) (w := X.w) (K := X.K) (elts := elts) (kk := kk) (tpos := tpos) a e it).obj i s.heap st b hb
      exact Heap.lt_size ho
    obtain ⟨⟨old, he⟩, hit, hne⟩ := st
    obtain ⟨xs, x, hq, hx⟩ := hg
    obtain ⟨its, rv, p, hz⟩ := I.list hq
    obtain ⟨u, hu, ru⟩ := rv.get hx
    refine wpAny_pyNext_enum_item he hit p.isList (x := u) (by simpa using hu) hne fun h' ho hit' hT hsz hk => ?_
    refine ⟨_, rfl, wpAny_letOwnedTupleGo_enum (s := { s with heap := h', toks := s.toks + 1 }) ho fun h2 he' sb => ?_⟩
    have hT2 := (sb.2 _ (Nat.ne_of_gt (lt e (by simp)))).trans hT
    have I1 := I.turnedNew (t' := s.toks + 1) (ob := .frz _ (.tup [.int (i : Nat), x])) (ch := [e, it]) (fun b ob hb q => (sb.2 b (fun z => hb (by simp [z]))).trans (hk b ob (fun z => hb (by simp [z])) (fun z => hb (by simp [z])) q)) hf (Nat.le_refl _)
      ⟨hT2, by show 2 ≤ sizeLine; decide, [.int i s.toks, u], .cons ⟨_, rfl⟩ (.cons ru .nil), ⟨_, hT2, rfl, _, rfl⟩⟩
    refine ⟨.ref s.heap.objs.size, _, I1, rfl, ⟨_, _, x, rfl, rfl, I.hok.fresh (Nat.le_refl _), rfl, fun ys hy => by rw [I.list_inj hy hq]; exact hx⟩, ⟨⟨u, ?_⟩, hit'.at fun o q => (sb.2 it (Ne.symm hne)).trans q, hne⟩, fun b hb => ?_⟩
    · rw [show ((i + 1 : Nat) : Int) = (i : Int) + 1 by omega]; exact he'
    · rw [upd_ne (Nat.ne_of_lt (lt b hb))]; exact (hf b hb).1
  done := (turn_enum (P := P) (w := w) (K := K) (elts := elts) (kk := kk) (tpos := tpos) a e it).done
  self := (turn_enum (P := P) (w := w) (K := K) (elts := elts) (kk := kk) (tpos := tpos) a e it).self
/-- zip of lists -/
def ItzF (K : PySem.W.Frag) (a b : Addr) : It where
  go := fun i H => ∃ (xs ys : List V) (x y : V), SqL K H a xs ∧ SqL K H b ys ∧ xs[i]? = some x ∧ ys[i]? = some y
  yld := fun i H v H' => ∃ T o x y, v = .ref T ∧ o.dict = none ∧ H T = none ∧ H' = upd H T (.frz o (.tup [x, y])) ∧ (∀ xs, SqL K H a xs → xs[i]? = some x) ∧ ∀ ys, SqL K H b ys → ys[i]? = some y
  stop := fun i H => ∃ xs ys : List V, SqL K H a xs ∧ SqL K H b ys ∧ (xs.length ≤ i ∨ ys.length ≤ i)
theorem turn_zipF {P : Program} {w : World} {K : PySem.W.Frag} {elts : List Expr} {kk : Nat} {tpos : Pos} {a b z TI TO i1 i2 : Addr} (D : ZipApart z TI TO i1 i2 a b) :
    Turn P w K (.Tuple elts kk tpos) (ItzF K a b) [z, TI, TO, i1, i2] z (fun i h => IsZip h z TI TO .none ∧ IsPair h TI (.ref i1) (.ref i2) ∧ (∃ x y, IsPair h TO x y) ∧ h.IsListIter i1 a i ∧ h.IsListIter i2 b i) where
  mem := (L2.turn_zip (P := P) (w := w) (K := K) (elts := elts) (kk := kk) (tpos := tpos) D).mem
  obj := (L2.turn_zip (P := P) (w := w) (K := K) (elts := elts) (kk := kk) (tpos := tpos) D).obj
  keep := (L2.turn_zip (P := P) (w := w) (K := K) (elts := elts) (kk := kk) (tpos := tpos) D).keep
  item := by
    intro X hP hw hK hc i pins s σ H E I hf st hg
    subst hP hw hK
    have lt : ∀ c ∈ [z, TI, TO, i1, i2], c < s.heap.objs.size := fun c hb => by
      obtain ⟨o, ho, _⟩ := (L2.turn_zip (P := X.prog) (w := X.w) (K := X.K) (elts := elts) (kk := kk) (tpos := tpos) D).obj i s.heap st c hb
      exact Heap.lt_size ho
    obtain ⟨hz, hTI, ⟨x0, y0, hTO⟩, h1, h2⟩ := st
    obtain ⟨xs, ys, x, y, hqx, hqy, hx, hy⟩ := hg
    obtain ⟨its, rv, p, _⟩ := I.list hqx
    obtain ⟨its2, rv2, p2, _⟩ := I.list hqy
    obtain ⟨u, hu, ru⟩ := rv.get hx
    obtain ⟨u2, hu2, ru2⟩ := rv2.get hy
    refine wpAny_pyNext_zip_item D hz hTI hTO h1 h2 p.isList p2.isList (x := u) (y := u2) (by simpa using hu) (by simpa using hu2) fun h' z' TO' h1' h2' hT hsz hk => ?_
    refine ⟨_, rfl, wpAny_letOwnedTupleGo_zip (s := { s with heap := h' }) z' fun h3 z2 sb => ?_⟩
    have hT2 := (sb.2 _ (Nat.ne_of_gt (lt z (by simp)))).trans hT
    have I1 := I.turnedNew (t' := s.toks) (ob := .frz _ (.tup [x, y])) (ch := [z, TI, TO, i1, i2]) (fun c o hb q => (sb.2 c (fun q' => hb (by simp [q']))).trans (hk c o (fun q' => hb (by simp [q'])) (fun q' => hb (by simp [q'])) (fun q' => hb (by simp [q'])) (fun q' => hb (by simp [q'])) q)) hf (Nat.le_refl _)
      ⟨hT2, by show 2 ≤ sizeLine; decide, [u, u2], .cons ru (.cons ru2 .nil), ⟨_, hT2, rfl, _, rfl⟩⟩
    refine ⟨.ref s.heap.objs.size, _, I1, rfl, ⟨_, _, x, y, rfl, rfl, I.hok.fresh (Nat.le_refl _), rfl, fun l hl => by rw [I.list_inj hl hqx]; exact hx, fun l hl => by rw [I.list_inj hl hqy]; exact hy⟩, ⟨z2, ?_, ⟨u, u2, ?_⟩, ?_, ?_⟩, fun c hcm => ?_⟩
    · exact (sb.2 _ D.TIz).trans (hk _ _ D.TIz D.TITO D.TIi1 D.TIi2 hTI)
    · exact (sb.2 _ D.TOz).trans TO'
    · exact h1'.at fun o q => (sb.2 _ D.i1z).trans q
    · exact h2'.at fun o q => (sb.2 _ D.i2z).trans q
    · rw [upd_ne (Nat.ne_of_lt (lt c hcm))]; exact (hf c hcm).1
  done := (L2.turn_zip (P := P) (w := w) (K := K) (elts := elts) (kk := kk) (tpos := tpos) D).done
  self := (L2.turn_zip (P := P) (w := w) (K := K) (elts := elts) (kk := kk) (tpos := tpos) D).self
/-- zip of tuples -/
def ItzTF (K : PySem.W.Frag) (a b : Addr) : It where
  go := fun i H => ∃ (xs ys : List V) (x y : V), SqT K H a xs ∧ SqT K H b ys ∧ xs[i]? = some x ∧ ys[i]? = some y
  yld := fun i H v H' => ∃ T o x y, v = .ref T ∧ o.dict = none ∧ H T = none ∧ H' = upd H T (.frz o (.tup [x, y])) ∧ (∀ xs, SqT K H a xs → xs[i]? = some x) ∧ ∀ ys, SqT K H b ys → ys[i]? = some y
  stop := fun i H => ∃ xs ys : List V, SqT K H a xs ∧ SqT K H b ys ∧ (xs.length ≤ i ∨ ys.length ≤ i)
theorem turn_zipTF {P : Program} {w : World} {K : PySem.W.Frag} {elts : List Expr} {kk : Nat} {tpos : Pos} {a b z TI TO i1 i2 : Addr} (D : ZipApart z TI TO i1 i2 a b) :
    Turn P w K (.Tuple elts kk tpos) (ItzTF K a b) [z, TI, TO, i1, i2] z (fun i h => IsZip h z TI TO .none ∧ IsPair h TI (.ref i1) (.ref i2) ∧ (∃ x y, IsPair h TO x y) ∧ h.IsTupleIter i1 a i ∧ h.IsTupleIter i2 b i) where
  mem := (RZ.turn_zipT (P := P) (w := w) (K := K) (elts := elts) (kk := kk) (tpos := tpos) D).mem
  obj := (RZ.turn_zipT (P := P) (w := w) (K := K) (elts := elts) (kk := kk) (tpos := tpos) D).obj
  keep := (RZ.turn_zipT (P := P) (w := w) (K := K) (elts := elts) (kk := kk) (tpos := tpos) D).keep
  item := by
    intro X hP hw hK hc i pins s σ H E I hf st hg
    subst hP hw hK
    have lt : ∀ c ∈ [z, TI, TO, i1, i2], c < s.heap.objs.size := fun c hb => by
      obtain ⟨o, ho, _⟩ := (RZ.turn_zipT (P := X.prog) (w := X.w) (K := X.K) (elts := elts) (kk := kk) (tpos := tpos) D).obj i s.heap st c hb
      exact Heap.lt_size ho
    obtain ⟨hz, hTI, ⟨x0, y0, hTO⟩, h1, h2⟩ := st
    obtain ⟨xs, ys, x, y, hqx, hqy, hx, hy⟩ := hg
    obtain ⟨its, rv, p, _⟩ := I.tuple hqx
    obtain ⟨its2, rv2, p2, _⟩ := I.tuple hqy
    obtain ⟨u, hu, ru⟩ := rv.get hx
    obtain ⟨u2, hu2, ru2⟩ := rv2.get hy
    refine RZ.pyNext_zipT_item D hz hTI hTO h1 h2 p p2 (x := u) (y := u2) (by simpa using hu) (by simpa using hu2) fun h' z' TO' h1' h2' hT hsz hk => ?_
    refine ⟨_, rfl, wpAny_letOwnedTupleGo_zip (s := { s with heap := h' }) z' fun h3 z2 sb => ?_⟩
    have hT2 := (sb.2 _ (Nat.ne_of_gt (lt z (by simp)))).trans hT
    have I1 := I.turnedNew (t' := s.toks) (ob := .frz _ (.tup [x, y])) (ch := [z, TI, TO, i1, i2]) (fun c o hb q => (sb.2 c (fun q' => hb (by simp [q']))).trans (hk c o (fun q' => hb (by simp [q'])) (fun q' => hb (by simp [q'])) (fun q' => hb (by simp [q'])) (fun q' => hb (by simp [q'])) q)) hf (Nat.le_refl _)
      ⟨hT2, by show 2 ≤ sizeLine; decide, [u, u2], .cons ru (.cons ru2 .nil), ⟨_, hT2, rfl, _, rfl⟩⟩
    refine ⟨.ref s.heap.objs.size, _, I1, rfl, ⟨_, _, x, y, rfl, rfl, I.hok.fresh (Nat.le_refl _), rfl, fun l hl => by rw [I.tuple_inj hl hqx]; exact hx, fun l hl => by rw [I.tuple_inj hl hqy]; exact hy⟩, ⟨z2, ?_, ⟨u, u2, ?_⟩, ?_, ?_⟩, fun c hcm => ?_⟩
    · exact (sb.2 _ D.TIz).trans (hk _ _ D.TIz D.TITO D.TIi1 D.TIi2 hTI)
    · exact (sb.2 _ D.TOz).trans TO'
    · exact h1'.at fun o q => (sb.2 _ D.i1z).trans q
    · exact h2'.at fun o q => (sb.2 _ D.i2z).trans q
    · rw [upd_ne (Nat.ne_of_lt (lt c hcm))]; exact (hf c hcm).1
  done := (RZ.turn_zipT (P := P) (w := w) (K := K) (elts := elts) (kk := kk) (tpos := tpos) D).done
  self := (RZ.turn_zipT (P := P) (w := w) (K := K) (elts := elts) (kk := kk) (tpos := tpos) D).self
def iZipF (K : PySem.W.Frag) (ta : TA) : TI := fun σ H R => ta σ H fun vs H1 => ∃ a b xs ys, vs = [.ref a, .ref b] ∧ ((SqL K H1 a xs ∧ SqL K H1 b ys ∧ R (ItzF K a b) H1) ∨ (SqT K H1 a xs ∧ SqT K H1 b ys ∧ R (ItzTF K a b) H1))
theorem pi_zipF {e e2 : Expr} {ta : TA} {p tpos : Pos} {elts : List Expr} {kk : Nat} (hg : Gl X "zip") (hm : X.mg "zip" = none) (ha : PA X [e, e2] ta)
    (hs : starEach [e, e2] X.env = (false, eval e X.env) :: starEach [e2] X.env := by rfl) (hpl : (backTo pos (starEach [e2] X.env)).any (·.1) = false := by rfl) :
    PI X (.Tuple elts kk tpos) (.Call (.Name "zip" p) [e, e2] [] pos) (iZipF X.K ta) := by
  refine ⟨fun pins s σ H R I h => ?_⟩
  refine Call_ (ld_blt I hg hm PyProof.Rows.boot_zip (PyProof.Rows.callWith_type1 (thn (ha.run pos pins s σ H _ I h) fun us s1 ⟨vs, H1, I1, r1, a, b, xs, ys, ex, q1⟩ => ?_) hs hpl))
  subst ex
  obtain ⟨v1, v2, rfl, rx, ry⟩ : ∃ v1 v2, us = [v1, v2] ∧ RelV (.ref a) v1 ∧ RelV (.ref b) v2 := by
    cases r1 with
    | cons r rr => cases rr with
      | cons r' rr => cases rr; exact ⟨_, _, rfl, r, r'⟩
  cases rx
  cases ry
  have fresh5 : ∀ c, c ∈ [s1.heap.objs.size + 4, s1.heap.objs.size + 2, s1.heap.objs.size + 3, s1.heap.objs.size, s1.heap.objs.size + 1] → FpOk X pins H1 c := fun c hcm => by
    have hle : s1.heap.objs.size ≤ c := by
      simp only [List.mem_cons, List.not_mem_nil, or_false] at hcm
      omega
    exact I1.fpOk hle (I1.hok.fresh hle)
  rcases q1 with ⟨hqx, hqy, q⟩ | ⟨hqx, hqy, q⟩
  · obtain ⟨its, rv, p1, _⟩ := I1.list hqx
    obtain ⟨its2, rv2, p2, _⟩ := I1.list hqy
    exact call_zip_2 p1.isList p2.isList fun h' hz hTI hTO h1 h2 hsz hk => wpAny_pyIter_zip hz
      ⟨_, _, _, _, H1, rfl, I1.kept (t' := s1.toks) hk, turn_zipF (PySem.W.ktu_apart s1.heap.objs.size a b p1.lt p2.lt), ⟨hz, hTI, ⟨_, _, hTO⟩, h1, h2⟩, fresh5, q⟩
  · obtain ⟨its, rv, p1, _⟩ := I1.tuple hqx
    obtain ⟨its2, rv2, p2, _⟩ := I1.tuple hqy
    obtain ⟨o1, ho1, _⟩ := id p1
    obtain ⟨o2, ho2, _⟩ := id p2
    exact RZ.call_zipT (show s1.heap.IsTuple a its.toArray from p1) (show s1.heap.IsTuple b its2.toArray from p2) fun h' hz hTI hTO h1 h2 hsz hk => wpAny_pyIter_zip hz
      ⟨_, _, _, _, H1, rfl, I1.kept (t' := s1.toks) hk, turn_zipTF (PySem.W.ktu_apart s1.heap.objs.size a b (Heap.lt_size ho1) (Heap.lt_size ho2)), ⟨hz, hTI, ⟨_, _, hTO⟩, h1, h2⟩, fresh5, q⟩
/-! ### t.index(x) of ints -/
def KTup (K : PySem.W.Frag) (a : Addr) (vs : List V) : Prop := ∃ (o : Obj) (its : Array Value) (n : Nat), K.lookup a = some o ∧ o.cls = .type "tuple" ∧ o.dict = none ∧ o.data = .seq its n ∧ its.size ≤ sizeLine ∧ Vals vs its.toList
/-- a tuple of a known object -/
def TupK (K : PySem.W.Frag) (H : Hp) (a : Addr) (vs : List V) : Prop := (∃ o, o.dict = none ∧ H a = some (.frz o (.tup vs))) ∨ KTup K a vs
theorem TupK.sq {K : PySem.W.Frag} {a : Addr} (h : TupK K H a vs) : SqT K H a vs := by
  rcases h with ⟨o, _, e⟩ | ⟨o, its, n, h1, h2, _, h3, h4, h5⟩
  · exact .inl (.inr ⟨o, e⟩)
  · exact .inr ⟨o, its, n, h1, h2, h3, h4, h5⟩
instance {K : PySem.W.Frag} {H : Hp} {a : Addr} {vs : List V} : Coe (TupK K H a vs) (SqT K H a vs) := ⟨TupK.sq⟩
theorem TupK.nod {a : Addr} (I : Inv X pins σ H s) (h : TupK X.K H a vs) : ∃ ob, s.heap.get? a = some ob ∧ ob.dict = none := by
  rcases h with ⟨o, d, e⟩ | ⟨o, its, n, h1, _, d, _⟩
  · exact ⟨o, (I.hok a _ e).1, d⟩
  · exact ⟨o, I.kIn a o h1, d⟩
def rIdxT (K : PySem.W.Frag) : V → List V → Hp → VK → Prop := fun x xs H Q => ∃ (a : Addr) (ns : List Int) (k : Int), x = V.ref a ∧ xs = [.int k] ∧ SqT K H a (ns.map V.int) ∧ k ∈ ns ∧ Q (.int (ns.idxOf k : Nat)) H
theorem mt_idxT : MtR X "tuple.index" (rIdxT X.K) := by
  intro pins s σ H x xs v us Q I rx rxs h
  obtain ⟨a, ns, k, rfl, rfl, hs, hk, q⟩ := h
  cases rx
  obtain ⟨u, rfl, t, rfl⟩ := vals1 rxs
  obtain ⟨its, r, p, hz⟩ := I.tuple hs
  exact PySem.SeqAt.tuple_index_ints (show s.heap.IsTuple a its.toArray from p) (L2.intsAre_of (us := its) (by simpa using r)) hk ⟨.int (ns.idxOf k : Nat), H, I.tok _, ⟨_, rfl⟩, q⟩
/-- o.index(e), o a list or a tuple -/
def tIdxA (K : PySem.W.Frag) (to : TE) (t : TA) : TE := fun σ H Q => to σ H fun x H1 =>
  (tyV K "list" x H1 ∧ t σ H1 fun xs H2 => rIndexD K x xs H2 Q) ∨ ((∃ a vs, x = .ref a ∧ TupK K H1 a vs) ∧ t σ H1 fun xs H2 => rIdxT K x xs H2 Q)
theorem pe_idxA {o e : Expr} {to : TE} {ta : TA} {apos cpos : Pos} (hu : X.A.units + 65 < cLine) (ho : PE X o to) (ha : PA X [e] ta)
    (hbase : attributeBase o "index" X.env (eval o X.env) = eval o X.env := by rfl)
    (hfew : ((backTo cpos (starEach [e] X.env)).all (fun x => !x.1) && (backToKw cpos (keywordEach [] X.env)).all (fun x => x.1.isSome)
      && decide ([e].length + ([] : List Keyword).length + (if ([] : List Keyword).isEmpty then 0 else 1) < 30)) = true := by rfl)
    (hline : (apos.endLine == cpos.line) = true := by rfl) (hs : starEach [e] X.env = (false, eval e X.env) :: starEach [] X.env := by rfl) (hplain : (backTo cpos (starEach [] X.env)).any (·.1) = false := by rfl) :
    PE X (.Call (.Attribute o "index" apos) [e] [] cpos) (tIdxA X.K to ta) := by
  refine ⟨fun pins s σ H Q I h => ?_⟩
  refine wpAny_Call_method_late hbase hfew hline rfl (thn (ho.run pins s σ H _ I h) fun v s1 ⟨x, H1, I1, r1, q1⟩ => ?_)
  have fin : ∀ {id : String} {r : V → List V → Hp → VK → Prop} {q1 : ta σ H1 fun xs H2 => r x xs H2 Q} (hm : MtR X id r), wpAny (model X.prog X.w) X.A (callWith cpos (.builtin id) [v] (backTo cpos (starEach [e] X.env)) []) (EP X pins σ Q) X.xe s1 := fun {id r q1} hm => by
    have hA := ha.run cpos pins s1 σ H1 _ I1 q1
    rw [hs] at hA ⊢
    refine Calls.callWith_builtin (by show (false || (backTo cpos (starEach [] X.env)).any (·.1)) = false; rw [hplain] <;> rfl) (Calls.evalArgs_plain ?_)
    exact thn hA fun us s2 ⟨vs, H2, I2, r2, q2⟩ => hm pins s2 σ H2 x vs v us Q I2 r1 r2 q2
  rcases q1 with ⟨ty, q1⟩ | ⟨⟨a, vs, rfl, tk⟩, q1⟩
  · obtain ⟨h1, h2⟩ := tyV_is I1 r1 ty
    exact ⟨"list", "list.index", PySem.F.plainAttrs_list, PySem.F.slot_list_index, PySem.F.type_list_index, h1, h2, fin (q1 := q1) (mt_indexD hu)⟩
  · cases r1
    obtain ⟨its, _, p, _⟩ := I1.tuple tk.sq
    exact ⟨"tuple", "tuple.index", PySem.F.plainAttrs_tuple, PySem.F.slot_tuple_index, PySem.F.type_tuple_index, p.typeIs, fun b eb => by cases eb; exact tk.nod I1, fin (q1 := q1) mt_idxT⟩
end
end DL

set_option Elab.async false
set_option linter.all false
set_option maxRecDepth 100000
/-! DL1: data by value over the hand layer: D, how a value of the abstract heap bears it, memory, the state's view. -/
namespace DL
open PySem PySem.Spec PyProof.Rows L2

/-- data by value; ref: a thing by reference (a def, a class, an object in memory) -/
inductive D where
  | non | bl (b : Bool) | int (i : Int) | str (x : Str) | ty (n : String) | ref (a : Addr)
  | tup (xs : List D) | lst (xs : List D)
  | dic (kvs : List (Key × D))

/-- the written part alone -/
abbrev H0e : Hp := fun _ => none
def TupAt (K : PySem.W.Frag) (A : Addr → Prop) (H : Hp) (a : Addr) (vs : List V) : Prop := (¬ A a ∧ ∃ o, o.dict = none ∧ H a = some (.frz o (.tup vs))) ∨ KTup K a vs
def LstAt (A : Addr → Prop) (H : Hp) (a : Addr) (vs : List V) : Prop := ¬ A a ∧ H a = some (.lst vs)
/-- by value: it is never written again -/
def DicAt (A : Addr → Prop) (H : Hp) (a : Addr) (kvs : List (Key × V)) : Prop := ¬ A a ∧ ∃ o, H a = some (.frz o (.dK kvs))

section
variable (K : PySem.W.Frag) (A : Addr → Prop) (H : Hp)
mutual
/-- v bears d, standing on nothing that A names -/
inductive Is : V → D → Prop
  | non : Is .non .non
  | bl (b : Bool) : Is (.bl b) (.bl b)
  | int (i : Int) : Is (.int i) (.int i)
  | str (x : Str) : Is (.str x) (.str x)
  | ty (n : String) : Is (.ty n) (.ty n)
  | ref (a : Addr) : Is (.ref a) (.ref a)
  | tup {a : Addr} {vs : List V} {ds : List D} : TupAt K A H a vs → IsL vs ds → Is (.ref a) (.tup ds)
  | lst {a : Addr} {vs : List V} {ds : List D} : LstAt A H a vs → IsL vs ds → Is (.ref a) (.lst ds)
  | dic {a : Addr} {kvs : List (Key × V)} {kds : List (Key × D)} : DicAt A H a kvs → IsK kvs kds → Is (.ref a) (.dic kds)
inductive IsL : List V → List D → Prop
  | nil : IsL [] []
  | cons {v : V} {d : D} {vs : List V} {ds : List D} : Is v d → IsL vs ds → IsL (v :: vs) (d :: ds)
inductive IsK : List (Key × V) → List (Key × D) → Prop
  | nil : IsK [] []
  | cons {k : Key} {v : V} {d : D} {vs : List (Key × V)} {ds : List (Key × D)} : Is v d → IsK vs ds → IsK ((k, v) :: vs) ((k, d) :: ds)
end
end

/-- what is tracked and may not change stays, and may not change later either -/
def Step (A : Addr → Prop) (H : Hp) (A' : Addr → Prop) (H' : Hp) : Prop := ∀ a o, H a = some o → ¬ A a → H' a = some o ∧ ¬ A' a
theorem Step.refl (A : Addr → Prop) (H : Hp) : Step A H A H := fun _ _ h n => ⟨h, n⟩
theorem Step.trans {A A' A'' : Addr → Prop} {H H' H'' : Hp} (x : Step A H A' H') (y : Step A' H' A'' H'') : Step A H A'' H'' := fun a o h n =>
  let ⟨h1, n1⟩ := x a o h n
  y a o h1 n1

section
variable {K : PySem.W.Frag} {A A' B : Addr → Prop} {H H' : Hp}
theorem Rd.step {u : HO} {a : Addr} (s : Step A H A' H') (n : ¬ A a) (r : Rd H a u) : Rd H' a u ∧ ¬ A' a := by
  rcases r with r | ⟨o, r⟩
  · exact ⟨.inl (s a _ r n).1, (s a _ r n).2⟩
  · exact ⟨.inr ⟨o, (s a _ r n).1⟩, (s a _ r n).2⟩
theorem TupAt.step {a : Addr} {vs : List V} (s : Step A H A' H') (h : TupAt K A H a vs) : TupAt K A' H' a vs := by
  rcases h with ⟨n, o, d, e⟩ | h
  · exact .inl ⟨(s a _ e n).2, o, d, (s a _ e n).1⟩
  · exact .inr h
theorem LstAt.step {a : Addr} {vs : List V} (s : Step A H A' H') (h : LstAt A H a vs) : LstAt A' H' a vs := ⟨(s a _ h.2 h.1).2, (s a _ h.2 h.1).1⟩
theorem DicAt.step {a : Addr} {vs : List (Key × V)} (s : Step A H A' H') (h : DicAt A H a vs) : DicAt A' H' a vs := let ⟨n, o, e⟩ := h; ⟨(s a _ e n).2, o, (s a _ e n).1⟩
theorem SqT.of0 {a : Addr} {vs : List V} (h : SqT K H0e a vs) : SqT K H a vs := by
  rcases h with (h | ⟨o, h⟩) | h
  · cases h
  · cases h
  · exact .inr h
theorem SqL.of0 {a : Addr} {vs : List V} (h : SqL K H0e a vs) : SqL K H a vs := by
  rcases h with (h | ⟨o, h⟩) | h
  · cases h
  · cases h
  · exact .inr h
theorem TupAt.sq {a : Addr} {vs : List V} (h : TupAt K A H a vs) : SqT K H a vs := by
  rcases h with ⟨_, o, _, e⟩ | ⟨o, its, n, h1, h2, _, h3, h4, h5⟩
  · exact .inl (.inr ⟨o, e⟩)
  · exact .inr ⟨o, its, n, h1, h2, h3, h4, h5⟩
theorem TupAt.tk {a : Addr} {vs : List V} (h : TupAt K A H a vs) : TupK K H a vs := by
  rcases h with ⟨_, h⟩ | h
  · exact .inl h
  · exact .inr h
mutual
theorem Is.step (s : Step A H A' H') : ∀ {v : V} {d : D}, Is K A H v d → Is K A' H' v d
  | _, _, .non => .non
  | _, _, .bl b => .bl b
  | _, _, .int i => .int i
  | _, _, .str x => .str x
  | _, _, .ty n => .ty n
  | _, _, .ref a => .ref a
  | _, _, .tup h l => .tup (h.step s) (IsL.step s l)
  | _, _, .lst h l => .lst (h.step s) (IsL.step s l)
  | _, _, .dic h l => .dic (h.step s) (IsK.step s l)
theorem IsL.step (s : Step A H A' H') : ∀ {v : List V} {d : List D}, IsL K A H v d → IsL K A' H' v d
  | _, _, .nil => .nil
  | _, _, .cons h l => .cons (Is.step s h) (IsL.step s l)
theorem IsK.step (s : Step A H A' H') : ∀ {v : List (Key × V)} {d : List (Key × D)}, IsK K A H v d → IsK K A' H' v d
  | _, _, .nil => .nil
  | _, _, .cons h l => .cons (Is.step s h) (IsK.step s l)
end
theorem IsL.length : ∀ {vs : List V} {ds : List D}, IsL K A H vs ds → vs.length = ds.length
  | _, _, .nil => rfl
  | _, _, .cons _ l => congrArg (· + 1) (IsL.length l)
theorem IsL.get : ∀ {vs : List V} {ds : List D} {i : Nat} {d : D}, IsL K A H vs ds → ds[i]? = some d → ∃ v, vs[i]? = some v ∧ Is K A H v d
  | _, _, _, _, .nil, e => by simp at e
  | _, _, 0, _, .cons h _, e => by simp at e; subst e; exact ⟨_, rfl, h⟩
  | _, _, i + 1, d, .cons _ t, e => by
    obtain ⟨v, h1, h2⟩ := IsL.get (i := i) (d := d) t (by simpa using e)
    exact ⟨v, by simpa using h1, h2⟩
theorem IsL.append : ∀ {vs ws : List V} {ds es : List D}, IsL K A H vs ds → IsL K A H ws es → IsL K A H (vs ++ ws) (ds ++ es)
  | _, _, _, _, .nil, y => y
  | _, _, _, _, .cons h t, y => .cons h (IsL.append t y)
theorem IsL.take : ∀ {vs : List V} {ds : List D} (n : Nat), IsL K A H vs ds → IsL K A H (vs.take n) (ds.take n)
  | _, _, 0, _ => .nil
  | _, _, _ + 1, .nil => .nil
  | _, _, n + 1, .cons h t => .cons h (IsL.take n t)
theorem IsL.drop : ∀ {vs : List V} {ds : List D} (n : Nat), IsL K A H vs ds → IsL K A H (vs.drop n) (ds.drop n)
  | _, _, 0, h => h
  | _, _, _ + 1, .nil => .nil
  | _, _, n + 1, .cons _ t => IsL.drop n t
theorem IsL.set {v : V} {d : D} (h : Is K A H v d) : ∀ {vs : List V} {ds : List D} (i : Nat), IsL K A H vs ds → IsL K A H (vs.set i v) (ds.set i d)
  | _, _, _, .nil => .nil
  | _, _, 0, .cons _ t => .cons h t
  | _, _, i + 1, .cons q t => .cons q (IsL.set h i t)
theorem IsL.reverse : ∀ {vs : List V} {ds : List D}, IsL K A H vs ds → IsL K A H vs.reverse ds.reverse
  | _, _, .nil => .nil
  | _, _, .cons h t => by
    rw [List.reverse_cons, List.reverse_cons]
    exact (IsL.reverse t).append (.cons h .nil)
theorem IsL.ints : ∀ (ns : List Int), IsL K A H (ns.map V.int) (ns.map D.int)
  | [] => .nil
  | n :: r => .cons (.int n) (IsL.ints r)
theorem IsL.of_ints : ∀ {vs : List V} {ns : List Int}, IsL K A H vs (ns.map D.int) → vs = ns.map V.int
  | _, [], h => by cases h; rfl
  | _, n :: r, h => by
    cases h with
    | cons h t =>
      cases h
      rw [IsL.of_ints t]
      rfl
end

/-! ### data that == and repr read: PyData -/
mutual
def D.py : D → PyData
  | .non => .none
  | .bl b => .bool b
  | .int i => .int i
  | .str x => .str x
  | .tup xs => .tuple (D.pyL xs)
  | .lst xs => .list (D.pyL xs)
  | _ => .none
def D.pyL : List D → List PyData
  | [] => []
  | d :: r => d.py :: D.pyL r
end
mutual
/-- no reference, no type, no dict within -/
def D.pl : D → Bool
  | .non | .bl _ | .int _ | .str _ => true
  | .tup xs | .lst xs => D.plL xs
  | _ => false
def D.plL : List D → Bool
  | [] => true
  | d :: r => d.pl && D.plL r
end
section
variable {K : PySem.W.Frag} {A : Addr → Prop} {H : Hp}
mutual
theorem Is.dp : ∀ {v : V} {d : D}, Is K A H v d → d.pl = true → Dp K H v d.py
  | _, _, .non, _ => .non
  | _, _, .bl b, _ => .bl b
  | _, _, .int i, _ => .int i
  | _, _, .str x, _ => .str x
  | _, _, .ty n, h => by simp [D.pl] at h
  | _, _, .ref a, h => by simp [D.pl] at h
  | _, _, .tup h l, e => .tup h.sq (IsL.dp l (by simpa [D.pl] using e))
  | _, _, .lst h l, e => .lst (SqL.of h.2) (IsL.dp l (by simpa [D.pl] using e))
  | _, _, .dic h l, e => by simp [D.pl] at e
theorem IsL.dp : ∀ {vs : List V} {ds : List D}, IsL K A H vs ds → D.plL ds = true → DpAll K H vs (D.pyL ds)
  | _, _, .nil, _ => .nil
  | _, _, .cons h l, e => by
    have e' : _ ∧ _ := Bool.and_eq_true_iff.mp (by simpa only [D.plL] using e)
    exact .cons (Is.dp h e'.1) (IsL.dp l e'.2)
end
end
theorem D.plL_all : ∀ (ds : List D), D.plL ds = ds.all D.pl
  | [] => rfl
  | d :: r => by simp only [D.plL, List.all_cons, D.plL_all r]
theorem D.pyL_map : ∀ (ds : List D), D.pyL ds = ds.map D.py
  | [] => rfl
  | d :: r => by simp only [D.pyL, List.map_cons, D.pyL_map r]

/-! ### memory: what is changed by reference -/
/-- a slot's, or a field's, own list or dict -/
inductive OM where
  | lst (ds : List D) | dic (kvs : List (Key × D))
inductive Fl where
  | v (d : D) | o (m : OM)
inductive MO where
  | om (m : OM)
  | ins (C : Addr) (fs : List (Str × Fl))
  /-- a dict of the law's drawing: by what is true of it -/
  | st
  /-- a thing of any other kind -/
  | ho (o : HO)
abbrev Mem := Addr → Option MO
def mup (M : Mem) (a : Addr) (o : MO) : Mem := fun b => if b = a then some o else M b
theorem mup_same {M : Mem} {a : Addr} {o : MO} : mup M a o a = some o := by unfold mup; rw [if_pos rfl]
theorem mup_ne {M : Mem} {a b : Addr} {o : MO} (h : b ≠ a) : mup M a o b = M b := by unfold mup; rw [if_neg h]
theorem mup_mup {M : Mem} {a : Addr} {o u : MO} : mup (mup M a o) a u = mup M a u := by
  funext b; unfold mup; split <;> rfl
theorem mup_self {M : Mem} {a : Addr} {o : MO} (h : M a = some o) : mup M a o = M := by
  funext b; unfold mup; split
  · rename_i e; rw [e, h]
  · rfl
/-- whose an address is: the i-th slot's, or a field's -/
inductive Ow where
  | slot (i : Nat) | fld (a : Addr) (f : Str)
abbrev Own := Addr → Option Ow
def Mut (M : Mem) (O : Own) (a : Addr) : Prop := M a ≠ none ∨ O a ≠ none
def Av (B : Addr → Prop) (M : Mem) (O : Own) (a : Addr) : Prop := B a ∨ Mut M O a

section
variable (K : PySem.W.Frag) (A : Addr → Prop) (H : Hp)
def OOk (a : Addr) : OM → Prop
  | .lst ds => ∃ vs, H a = some (.lst vs) ∧ IsL K A H vs ds
  | .dic kds => ∃ kvs, H a = some (.dK kvs) ∧ IsK K A H kvs kds
/-- the drawing's state, as its dict's entries -/
def stD (ns : List Int) (at_ rest turn more : Int) : List (Key × D) :=
  [(Sum.inr "cells", D.lst (ns.map D.int)), (Sum.inr "at", D.int at_), (Sum.inr "rest", D.int rest), (Sum.inr "turn", D.int turn), (Sum.inr "more", D.int more)]
def StOk (kvs : List (Key × D)) : Prop := ∃ (ns : List Int) (at_ rest turn more : Int), kvs = stD ns at_ rest turn more ∧
  ns.length ≤ 63 ∧ (∀ n ∈ ns, 0 ≤ n) ∧ 0 ≤ at_ ∧ 0 ≤ rest ∧ 0 ≤ turn ∧ 0 ≤ more ∧ more < 2147483648
inductive FlsOk (O : Own) (a : Addr) : List (Str × V) → List (Str × Fl) → Prop
  | nil : FlsOk O a [] []
  | v {f : Str} {v : V} {d : D} {vs : List (Str × V)} {fs : List (Str × Fl)} : Is K A H v d → FlsOk O a vs fs → FlsOk O a ((f, v) :: vs) ((f, .v d) :: fs)
  | o {f : Str} {l : Addr} {m : OM} {vs : List (Str × V)} {fs : List (Str × Fl)} : O l = some (.fld a f) → OOk K A H l m → FlsOk O a vs fs → FlsOk O a ((f, .ref l) :: vs) ((f, .o m) :: fs)
def MOk (O : Own) (a : Addr) : MO → Prop
  | .om m => OOk K A H a m
  | .ins C fs => ∃ dx vs, H a = some (.ins C dx vs) ∧ FlsOk K A H O a vs fs
  | .st => ∃ kds, StOk kds ∧ OOk K A H a (.dic kds)
  | .ho o => H a = some o
end
structure MemOk (K : PySem.W.Frag) (B : Addr → Prop) (H : Hp) (M : Mem) (O : Own) : Prop where
  mem : ∀ a mo, M a = some mo → ¬ B a ∧ O a = none ∧ MOk K (Av B M O) H O a mo
  own : ∀ a w, O a = some w → ¬ B a ∧ H a ≠ none
  btr : ∀ a, B a → H a ≠ none

/-- a slot: unset, a value, an own list or dict, a list or tuple that is lent (true: a tuple), the script -/
inductive Sl where
  | n | v (d : D) | o (m : OM) | b (k : Bool) (ds : List D) | s (ns : List Int)
/-- it stands, as long as nothing but what U names changes -/
def Lent (k : Bool) (K : PySem.W.Frag) (U : Addr → Prop) (H : Hp) (a : Addr) (vs : List V) : Prop := if k = true then TupAt K U H a vs else LstAt U H a vs
theorem Lent.step {k : Bool} {K : PySem.W.Frag} {U U' : Addr → Prop} {H H' : Hp} {a : Addr} {vs : List V} (s : Step U H U' H') (h : Lent k K U H a vs) : Lent k K U' H' a vs := by
  cases k with
  | true => exact TupAt.step s (show TupAt K U H a vs from h)
  | false => exact LstAt.step s (show LstAt U H a vs from h)
/-- the script -/
def ScrAt (K : PySem.W.Frag) (U : Addr → Prop) (H : Hp) (a : Addr) (ns : List Int) : Prop := (¬ U a ∧ Rd H a (.lst (ns.map V.int))) ∨ SqL K H0e a (ns.map V.int)
theorem ScrAt.step {K : PySem.W.Frag} {U U' : Addr → Prop} {H H' : Hp} {a : Addr} {vs : List Int} (s : Step U H U' H') (h : ScrAt K U H a vs) : ScrAt K U' H' a vs := by
  rcases h with ⟨n, r⟩ | h
  · exact .inl ⟨(Rd.step s n r).2, (Rd.step s n r).1⟩
  · exact .inr h
theorem ScrAt.sq {K : PySem.W.Frag} {U : Addr → Prop} {H : Hp} {a : Addr} {vs : List Int} (h : ScrAt K U H a vs) : SqL K H a (vs.map V.int) := by
  rcases h with ⟨_, h⟩ | h
  · exact .inl h
  · exact SqL.of0 h
def SlU (K : PySem.W.Frag) (A U : Addr → Prop) (O : Own) (H : Hp) (i : Nat) (x : Option V) : Sl → Prop
  | .n => True
  | .v d => ∃ v, x = some v ∧ Is K A H v d
  | .o m => ∃ a, x = some (.ref a) ∧ O a = some (.slot i) ∧ OOk K A H a m
  | .b k ds => ∃ a vs, x = some (.ref a) ∧ Lent k K U H a vs ∧ IsL K A H vs ds
  | .s ns => ∃ a, x = some (.ref a) ∧ ScrAt K U H a ns
abbrev SlOk (K : PySem.W.Frag) (B : Addr → Prop) (H : Hp) (M : Mem) (O : Own) (i : Nat) (x : Option V) (s : Sl) : Prop := SlU K (Av B M O) (Mut M O) O H i x s

/-- a def's frame over data: its slots, what is wanted of an exception (its class, the memory) -/
structure Fr where
  sl : List Sl
  ex : Addr → Mem → Prop
/-- at the entry of a def (or of a loop): the heap, what might change; what is wanted of an exception there -/
structure En where
  B : Addr → Prop
  H : Hp
  U : Addr → Prop
  X : Addr → Mem → Prop
  W : Addr → Hp → Prop
/-- an exception of an own class without fields -/
def xk (W : Addr → Hp → Prop) : XK := fun cls d H => ∃ C, cls = .ref C ∧ d = none ∧ W C H
structure Rep (X : Cx) (B : Addr → Prop) (E : En) (σ : L2.St) (H : Hp) (r : Fr) (M : Mem) (O : Own) : Prop where
  m : MemOk X.K B H M O
  len : σ.length = r.sl.length
  sl : ∀ i s, r.sl[i]? = some s → SlOk X.K B H M O i ((σ[i]?).getD none) s
  ent : Step E.U E.H (Mut M O) H
  sub : ∀ b, E.B b → B b
  exc : ∀ C M' H' O', MemOk X.K E.B H' M' O' → Step E.U E.H (Mut M' O') H' → E.X C M' → E.W C H'
  lk : Takes X (fun cls d _ H => xk E.W cls d H)
  xe : r.ex = E.X
theorem Rep.ps {X : Cx} {B : Addr → Prop} {E : En} {σ : L2.St} {H : Hp} {r : Fr} {M : Mem} {O : Own} (R : Rep X B E σ H r M O) : Passes (L2.CX X.prog X.w) X (xk E.W) := passes_call R.lk fun _ _ _ _ h => h
end DL

set_option Elab.async false
set_option linter.all false
set_option maxRecDepth 100000
/-! DL2: the judgements over data, their first rules. -/
namespace DL
open PySem PySem.Spec PyProof.Rows L2

section
variable {X : Cx} {K : PySem.W.Frag} {B : Addr → Prop} {E : En} {σ : L2.St} {H H' H'' : Hp} {r : Fr} {M M' M'' : Mem} {O O' O'' : Own} {p : Bool}
theorem step_same {A A' : Addr → Prop} (h : Same H H') (hA : ∀ a, ¬ A a → ¬ A' a) : Step A H A' H' := fun a o e n => ⟨h a o e, hA a n⟩
theorem OOk.same {A : Addr → Prop} (h : Same H H') {a : Addr} : ∀ {m : OM}, OOk K A H a m → OOk K A H' a m
  | .lst _, ⟨vs, e, l⟩ => ⟨vs, h _ _ e, l.step (step_same h fun _ n => n)⟩
  | .dic _, ⟨vs, e, l⟩ => ⟨vs, h _ _ e, l.step (step_same h fun _ n => n)⟩
theorem FlsOk.same {A : Addr → Prop} (h : Same H H') {a : Addr} : ∀ {vs : List (Str × V)} {fs : List (Str × Fl)}, FlsOk K A H O a vs fs → FlsOk K A H' O a vs fs
  | _, _, .nil => .nil
  | _, _, .v i t => .v (i.step (step_same h fun _ n => n)) (FlsOk.same h t)
  | _, _, .o e i t => .o e (i.same h) (FlsOk.same h t)
theorem MOk.same {A : Addr → Prop} (h : Same H H') {a : Addr} : ∀ {m : MO}, MOk K A H O a m → MOk K A H' O a m
  | .om m, x => OOk.same h x
  | .ins _ _, ⟨dx, vs, e, x⟩ => ⟨dx, vs, h _ _ e, x.same h⟩
  | .st, ⟨kds, s, x⟩ => ⟨kds, s, OOk.same h x⟩
  | .ho _, e => h _ _ e
theorem MemOk.same (h : Same H H') (x : MemOk K B H M O) : MemOk K B H' M O where
  mem := fun a mo e => let ⟨h1, h2, h3⟩ := x.mem a mo e; ⟨h1, h2, h3.same h⟩
  own := fun a w e => let ⟨h1, h2⟩ := x.own a w e; ⟨h1, fun z => h2 (h.free z)⟩
  btr := fun a e z => x.btr a e (h.free z)
theorem SlOk.same (h : Same H H') {i : Nat} {x : Option V} : ∀ {s : Sl}, SlOk K B H M O i x s → SlOk K B H' M O i x s
  | .n, _ => trivial
  | .v d, ⟨v, e, q⟩ => ⟨v, e, q.step (step_same h fun _ n => n)⟩
  | .o m, ⟨a, e, o, q⟩ => ⟨a, e, o, q.same h⟩
  | .b k ds, ⟨a, vs, e, q, l⟩ => ⟨a, vs, e, q.step (step_same h fun _ n => n), l.step (step_same h fun _ n => n)⟩
  | .s ns, ⟨a, e, q⟩ => ⟨a, e, q.step (step_same h fun _ n => n)⟩
theorem Rep.same (h : Same H H') (x : Rep X B E σ H r M O) : Rep X B E σ H' r M O where
  m := x.m.same h
  len := x.len
  sl := fun i s e => (x.sl i s e).same h
  ent := x.ent.trans (step_same h fun _ n => n)
  sub := x.sub
  exc := x.exc
  lk := x.lk
  xe := x.xe

/-- how the state has gone on; p: nothing that stood has changed -/
def Rl (p : Bool) (M : Mem) (O : Own) (H : Hp) (M' : Mem) (O' : Own) (H' : Hp) : Prop := (p = true → M' = M ∧ O' = O ∧ Same H H') ∧ Step (Mut M O) H (Mut M' O') H'
theorem Rl.refl : Rl p M O H M O H := ⟨fun _ => ⟨rfl, rfl, Same.refl _⟩, Step.refl _ _⟩
theorem Rl.of_same (h : Same H H') : Rl p M O H M O H' := ⟨fun _ => ⟨rfl, rfl, h⟩, step_same h fun _ n => n⟩
theorem Rl.trans (x : Rl p M O H M' O' H') (y : Rl p M' O' H' M'' O'' H'') : Rl p M O H M'' O'' H'' :=
  ⟨fun e => by
    obtain ⟨a1, a2, a3⟩ := x.1 e
    obtain ⟨b1, b2, b3⟩ := y.1 e
    exact ⟨b1.trans a1, b2.trans a2, a3.trans b3⟩, x.2.trans y.2⟩
theorem Rl.weak (x : Rl true M O H M' O' H') : Rl p M O H M' O' H' := ⟨fun _ => x.1 rfl, x.2⟩
theorem Rl.loose (x : Rl p M O H M' O' H') : Rl false M O H M' O' H' := ⟨fun e => (nomatch e), x.2⟩
theorem Rl.avs (x : Rl p M O H M' O' H') : Step (Av B M O) H (Av B M' O') H' := fun a o e n =>
  have n1 : ¬ B a := fun z => n (.inl z)
  have ⟨h1, h2⟩ := x.2 a o e fun z => n (.inr z)
  ⟨h1, fun z => z.elim n1 h2⟩

/-- shallow: the list or tuple itself may be one that changes later -/
def Is1 (K : PySem.W.Frag) (A : Addr → Prop) (H : Hp) (v : V) : D → Prop
  | .tup ds => ∃ a vs, v = .ref a ∧ TupK K H a vs ∧ IsL K A H vs ds
  | .lst ds => ∃ a vs, v = .ref a ∧ H a = some (.lst vs) ∧ IsL K A H vs ds
  | .dic kds => ∃ a kvs, v = .ref a ∧ Rd H a (.dK kvs) ∧ IsK K A H kvs kds
  | d => Is K A H v d
theorem Is.one {A : Addr → Prop} : ∀ {v : V} {d : D}, Is K A H v d → Is1 K A H v d
  | _, _, .non => .non
  | _, _, .bl b => .bl b
  | _, _, .int b => .int b
  | _, _, .str b => .str b
  | _, _, .ty b => .ty b
  | _, _, .ref b => .ref b
  | _, _, .tup h l => ⟨_, _, rfl, h.tk, l⟩
  | _, _, .lst h l => ⟨_, _, rfl, h.2, l⟩
  | _, _, .dic h l => ⟨_, _, rfl, .inr h.2, l⟩
theorem SqT.same {a : Addr} {vs : List V} (e : Same H H') (h : SqT K H a vs) : SqT K H' a vs := by
  rcases h with (h | ⟨o, h⟩) | h
  · exact .inl (.inl (e _ _ h))
  · exact .inl (.inr ⟨o, e _ _ h⟩)
  · exact .inr h
theorem Rd.same {a : Addr} {u : HO} (e : Same H H') (h : Rd H a u) : Rd H' a u := by
  rcases h with h | ⟨o, h⟩
  · exact .inl (e _ _ h)
  · exact .inr ⟨o, e _ _ h⟩
theorem TupK.same {a : Addr} {vs : List V} (e : Same H H') (h : TupK K H a vs) : TupK K H' a vs := by
  rcases h with ⟨o, d, h⟩ | h
  · exact .inl ⟨o, d, e _ _ h⟩
  · exact .inr h
theorem Is1.same {A : Addr → Prop} (e : Same H H') {v : V} : ∀ {d : D}, Is1 K A H v d → Is1 K A H' v d
  | .tup _, ⟨a, vs, h1, h2, h3⟩ => ⟨a, vs, h1, TupK.same e h2, h3.step (step_same e fun _ n => n)⟩
  | .lst _, ⟨a, vs, h1, h2, h3⟩ => ⟨a, vs, h1, e _ _ h2, h3.step (step_same e fun _ n => n)⟩
  | .dic _, ⟨a, vs, h1, h2, h3⟩ => ⟨a, vs, h1, Rd.same e h2, h3.step (step_same e fun _ n => n)⟩
  | .non, h => Is.step (step_same e fun _ n => n) h
  | .bl _, h => Is.step (step_same e fun _ n => n) h
  | .int _, h => Is.step (step_same e fun _ n => n) h
  | .str _, h => Is.step (step_same e fun _ n => n) h
  | .ty _, h => Is.step (step_same e fun _ n => n) h
  | .ref _, h => Is.step (step_same e fun _ n => n) h
def IsX (w : Bool) (K : PySem.W.Frag) (A : Addr → Prop) (H : Hp) (v : V) (d : D) : Prop := if w = true then Is K A H v d else Is1 K A H v d
theorem IsX.one {A : Addr → Prop} {w : Bool} {v : V} {d : D} (h : IsX w K A H v d) : Is1 K A H v d := by
  cases w with
  | true => exact Is.one h
  | false => exact h
/-- it is kept while the next one is reckoned -/
theorem IsX.next {w : Bool} {v : V} {d : D} (hw : (w || p) = true) (l : Rl p M O H M' O' H') (h : IsX w K (Av B M O) H v d) : IsX w K (Av B M' O') H' v d := by
  cases w with
  | true => exact Is.step l.avs h
  | false =>
    have hp : p = true := hw
    obtain ⟨e1, e2, e3⟩ := l.1 hp
    subst e1; subst e2
    exact Is1.same e3 h
end

abbrev GE := Fr → Mem → (D → Mem → Prop) → Prop
abbrev GT := Fr → Mem → (Bool → Mem → Prop) → Prop
def LE (w p : Bool) (X : Cx) (B : Addr → Prop) (E : En) (σ : L2.St) (r : Fr) (H : Hp) (M : Mem) (O : Own) (Q : VK) : D → Mem → Prop := fun d M' =>
  ∀ v H' O', Rep X B E σ H' r M' O' → Rl p M O H M' O' H' → IsX w X.K (Av B M' O') H' v d → Q v H'
def LT (p : Bool) (X : Cx) (B : Addr → Prop) (E : En) (σ : L2.St) (r : Fr) (H : Hp) (M : Mem) (O : Own) (Q : Bool → Hp → Prop) : Bool → Mem → Prop := fun b M' =>
  ∀ H' O', Rep X B E σ H' r M' O' → Rl p M O H M' O' H' → Q b H'
/-- w: the value is kept apart from what changes later; p: nothing that stood is changed -/
structure DE (w p : Bool) (X : Cx) (e : Expr) (g : GE) : Prop where
  run : PE X e (fun σ H Q => ∃ B E r M O, Rep X B E σ H r M O ∧ g r M (LE w p X B E σ r H M O Q))
  mono : ∀ r M Q Q', (∀ d M', Q d M' → Q' d M') → g r M Q → g r M Q'
structure DT (p : Bool) (X : Cx) (e : Expr) (g : GT) : Prop where
  run : PT X e (fun σ H Q => ∃ B E r M O, Rep X B E σ H r M O ∧ g r M (LT p X B E σ r H M O Q))
  mono : ∀ r M Q Q', (∀ d M', Q d M' → Q' d M') → g r M Q → g r M Q'

theorem peI {X : Cx} {e : Expr} {t t' : TE} (h : PE X e t) (i : ∀ σ H Q, t' σ H Q → t σ H Q) : PE X e t' := ⟨fun pins s σ H Q I q => h.run pins s σ H Q I (i σ H Q q)⟩
theorem ptI {X : Cx} {e : Expr} {t t' : TT} (h : PT X e t) (i : ∀ σ H Q, t' σ H Q → t σ H Q) : PT X e t' := ⟨fun pins s σ H Q I q => h.run pins s σ H Q I (i σ H Q q)⟩
theorem pwI {X : Cx} {e : Expr} {t t' : TT} (h : PW X e t) (i : ∀ σ H Q, t' σ H Q → t σ H Q) : PW X e t' := ⟨fun wh pins s σ H Q I q => h.run wh pins s σ H Q I (i σ H Q q)⟩

section
variable {X : Cx} {w w1 w2 p : Bool} {a b c e : Expr} {g ga gb gc : GE} {B : Addr → Prop} {E : En} {σ : L2.St} {H : Hp} {r : Fr} {M : Mem} {O : Own} {pos : Pos}
theorem DE.on (ha : DE w p X e g) (R : Rep X B E σ H r M O) {k : D → Mem → Prop} (h : g r M k) {Q : VK}
    (hk : ∀ d M1 v H1 O1, k d M1 → Rep X B E σ H1 r M1 O1 → Rl p M O H M1 O1 H1 → IsX w X.K (Av B M1 O1) H1 v d → Q v H1) :
    ∃ B E r M O, Rep X B E σ H r M O ∧ g r M (LE w p X B E σ r H M O Q) :=
  ⟨B, E, r, M, O, R, ha.mono r M _ _ (fun d M1 h1 v H1 O1 R1 l1 i1 => hk d M1 v H1 O1 h1 R1 l1 i1) h⟩
theorem DT.on {gt : GT} (ha : DT p X e gt) (R : Rep X B E σ H r M O) {k : Bool → Mem → Prop} (h : gt r M k) {Q : Bool → Hp → Prop}
    (hk : ∀ d M1 H1 O1, k d M1 → Rep X B E σ H1 r M1 O1 → Rl p M O H M1 O1 H1 → Q d H1) :
    ∃ B E r M O, Rep X B E σ H r M O ∧ gt r M (LT p X B E σ r H M O Q) :=
  ⟨B, E, r, M, O, R, ha.mono r M _ _ (fun d M1 h1 H1 O1 R1 l1 => hk d M1 H1 O1 h1 R1 l1) h⟩
/-- a pure one where any is asked -/
theorem DE.up (h : DE w true X e g) : DE w p X e g :=
  ⟨peI h.run fun σ H Q ⟨B, E, r, M, O, R, q⟩ => h.on R q fun d M1 v H1 O1 k R1 l i => k v H1 O1 R1 l.weak i, h.mono⟩
theorem DE.lo (h : DE true p X e g) : DE w p X e g := by
  cases w with
  | true => exact h
  | false => exact ⟨peI h.run fun σ H Q ⟨B, E, r, M, O, R, q⟩ => h.on R q fun d M1 v H1 O1 k R1 l i => k v H1 O1 R1 l (Is.one i), h.mono⟩
theorem DT.up {gt : GT} (h : DT true X e gt) : DT p X e gt :=
  ⟨ptI h.run fun σ H Q ⟨B, E, r, M, O, R, q⟩ => h.on R q fun d M1 H1 O1 k R1 l => k H1 O1 R1 l.weak, h.mono⟩

/-! ### names, constants -/
def gC (d : D) : GE := fun _ M Q => Q d M
theorem de_int {i j} : DE true p X (.Constant (.int i) j pos) (gC (.int i)) :=
  ⟨peI pe_int fun σ H Q ⟨B, E, r, M, O, R, q⟩ => q _ H O R Rl.refl (.int i), fun _ _ _ _ h q => h _ _ q⟩
theorem de_bl {i j} : DE true p X (.Constant (.bool i) j pos) (gC (.bl i)) :=
  ⟨peI pe_bl fun σ H Q ⟨B, E, r, M, O, R, q⟩ => q _ H O R Rl.refl (.bl i), fun _ _ _ _ h q => h _ _ q⟩
theorem de_non {j} : DE true p X (.Constant .none j pos) (gC .non) :=
  ⟨peI pe_non fun σ H Q ⟨B, E, r, M, O, R, q⟩ => q _ H O R Rl.refl .non, fun _ _ _ _ h q => h _ _ q⟩
theorem de_str {x j} : DE true p X (.Constant (.str x) j pos) (gC (.str x)) :=
  ⟨peI pe_str fun σ H Q ⟨B, E, r, M, O, R, q⟩ => q _ H O R Rl.refl (.str x), fun _ _ _ _ h q => h _ _ q⟩

theorem Rep.slot {i : Nat} {s : Sl} (R : Rep X B E σ H r M O) (h : r.sl[i]? = some s) : ∃ x, σ[i]? = some x ∧ SlOk X.K B H M O i x s := by
  have hi : i < r.sl.length := by
    obtain ⟨h1, _⟩ := List.getElem?_eq_some_iff.mp h
    exact h1
  have hs : i < σ.length := by rw [R.len]; exact hi
  refine ⟨σ[i], List.getElem?_eq_getElem hs, ?_⟩
  have q := R.sl i s h
  rw [List.getElem?_eq_getElem hs] at q
  exact q
/-- a name's value -/
def gV (i : Nat) : GE := fun r M Q => match r.sl[i]? with
  | some (.v d) => Q d M
  | _ => False
theorem de_var (i : Nat) {x : Str} (hN : X.N[i]? = some x := by rfl) (hv : Vis X.env.scope x := by first | exact Or.inl rfl | exact Or.inr (Or.inl rfl) | exact Or.inr (Or.inr rfl)) (hd : (x == ("__debug__" : Str)) = false := by decide)
    (hcd : (x == ("__classdict__" : Str)) = false := by decide) : DE true p X (.Name x pos) (gV i) := by
  refine ⟨peI (pe_var hN hv hd hcd) fun σ H Q ⟨B, E, r, M, O, R, q⟩ => ?_, fun r M Q Q' h q => ?_⟩
  · unfold gV at q
    split at q
    · rename_i d e
      obtain ⟨x, e1, v, e2, i1⟩ := R.slot e
      subst e2
      exact ⟨v, e1, q v H O R Rl.refl i1⟩
    · exact q.elim
  · unfold gV at q ⊢
    split at q
    · exact h _ _ q
    · exact q.elim
/-- .. shallow: an own list, a lent one too -/
def gVw (i : Nat) : GE := fun r M Q => match r.sl[i]? with
  | some (.v d) => Q d M
  | some (.o (.lst ds)) => Q (.lst ds) M
  | some (.o (.dic ds)) => Q (.dic ds) M
  | some (.b true ds) => Q (.tup ds) M
  | some (.b false ds) => Q (.lst ds) M
  | _ => False
theorem de_varW (i : Nat) {x : Str} (hN : X.N[i]? = some x := by rfl) (hv : Vis X.env.scope x := by first | exact Or.inl rfl | exact Or.inr (Or.inl rfl) | exact Or.inr (Or.inr rfl)) (hd : (x == ("__debug__" : Str)) = false := by decide)
    (hcd : (x == ("__classdict__" : Str)) = false := by decide) : DE false p X (.Name x pos) (gVw i) := by
  refine ⟨peI (pe_var hN hv hd hcd) fun σ H Q ⟨B, E, r, M, O, R, q⟩ => ?_, fun r M Q Q' h q => ?_⟩
  · unfold gVw at q
    split at q
    · rename_i d e
      obtain ⟨x, e1, v, e2, i1⟩ := R.slot e
      subst e2
      exact ⟨v, e1, q v H O R Rl.refl i1.one⟩
    · rename_i ds e
      obtain ⟨x, e1, v, e2, i1, vs, i2, i3⟩ := R.slot e
      subst e2
      exact ⟨_, e1, q _ H O R Rl.refl ⟨_, vs, rfl, i2, i3⟩⟩
    · rename_i ds e
      obtain ⟨x, e1, v, e2, i1, vs, i2, i3⟩ := R.slot e
      subst e2
      exact ⟨_, e1, q _ H O R Rl.refl ⟨_, vs, rfl, .inl i2, i3⟩⟩
    · rename_i ds e
      obtain ⟨x, e1, v, vs, e2, i1, i2⟩ := R.slot e
      subst e2
      exact ⟨_, e1, q _ H O R Rl.refl ⟨_, vs, rfl, TupAt.tk i1, i2⟩⟩
    · rename_i ds e
      obtain ⟨x, e1, v, vs, e2, i1, i2⟩ := R.slot e
      subst e2
      exact ⟨_, e1, q _ H O R Rl.refl ⟨_, vs, rfl, i1.2, i2⟩⟩
    · exact q.elim
  · unfold gVw at q ⊢
    split at q
    all_goals first | exact h _ _ q | exact q.elim
/-- a module's constant that is a value of the written part, by what is known of it -/
theorem de_glob {x : Str} {v : V} {u : Value} {d : D} (hg : Gl X x) (hm : X.mg x = some u) (hr : RelV v u) (hi : ∀ A H, Is X.K A H v d) (hd : (x == ("__debug__" : Str)) = false := by decide) : DE true p X (.Name x pos) (gC d) :=
  ⟨peI (pe_glob hg hm hr hd) fun σ H Q ⟨B, E, r, M, O, R, q⟩ => q _ H O R Rl.refl (hi _ _), fun _ _ _ _ h q => h _ _ q⟩
end
end DL

set_option Elab.async false
set_option linter.all false
set_option maxRecDepth 100000
/-! DL3: operators, comparisons, tests, displays over data. -/
namespace DL
open PySem PySem.Spec PyProof.Rows L2

section
variable {X : Cx} {K : PySem.W.Frag} {B : Addr → Prop} {E : En} {σ : L2.St} {H H' : Hp} {r : Fr} {M : Mem} {O : Own} {p w : Bool} {Q : VK}
theorem OOk.there {A : Addr → Prop} {a : Addr} : ∀ {m : OM}, OOk K A H a m → H a ≠ none
  | .lst _, ⟨_, e, _⟩ => fun z => by rw [z] at e; cases e
  | .dic _, ⟨_, e, _⟩ => fun z => by rw [z] at e; cases e
theorem MOk.there {A : Addr → Prop} {a : Addr} : ∀ {m : MO}, MOk K A H O a m → H a ≠ none
  | .om _, x => OOk.there x
  | .ins _ _, ⟨_, _, e, _⟩ => fun z => by rw [z] at e; cases e
  | .st, ⟨_, _, x⟩ => OOk.there x
  | .ho _, e => fun z => by
    have e : H a = some _ := e
    rw [z] at e; cases e
theorem MemOk.fresh (x : MemOk K B H M O) {a : Addr} (n : H a = none) : ¬ Av B M O a := fun z => by
  rcases z with z | z | z
  · exact x.btr a z n
  · cases e : M a with
    | none => exact z e
    | some mo => exact (x.mem a mo e).2.2.there n
  · cases e : O a with
    | none => exact z e
    | some o => exact (x.own a o e).2 n
theorem same_upd {a : Addr} {o : HO} (n : H a = none) : Same H (upd H a o) := fun b u e => by
  rw [upd_ne (ne_of_none e n)]; exact e
theorem Is.up {A : Addr → Prop} (h : Same H H') {v : V} {d : D} (x : Is K A H v d) : Is K A H' v d := x.step (step_same h fun _ n => n)
theorem IsL.up {A : Addr → Prop} (h : Same H H') {v : List V} {d : List D} (x : IsL K A H v d) : IsL K A H' v d := x.step (step_same h fun _ n => n)
theorem IsX.of {A : Addr → Prop} {v : V} {d : D} (h : Is K A H v d) : IsX w K A H v d := by
  cases w with
  | true => exact h
  | false => exact h.one
theorem fin_tup (R : Rep X B E σ H r M O) {vs : List V} {ds : List D} (l : IsL X.K (Av B M O) H vs ds) (q : LE w p X B E σ r H M O Q (.tup ds) M) : Fz Q H vs := fun a o hd n =>
  q _ _ O (R.same (same_upd n)) (Rl.of_same (same_upd n)) (IsX.of (.tup (.inl ⟨R.m.fresh n, o, hd, upd_same⟩) (l.up (same_upd n))))
theorem fin_lst (R : Rep X B E σ H r M O) {vs : List V} {ds : List D} (l : IsL X.K (Av B M O) H vs ds) (q : LE w p X B E σ r H M O Q (.lst ds) M) : ∀ a, H a = none → Q (.ref a) (upd H a (.lst vs)) := fun a n =>
  q _ _ O (R.same (same_upd n)) (Rl.of_same (same_upd n)) (IsX.of (.lst ⟨R.m.fresh n, upd_same⟩ (l.up (same_upd n))))
theorem fin_v (R : Rep X B E σ H r M O) {v : V} {d : D} (l : Is X.K (Av B M O) H v d) (q : LE w p X B E σ r H M O Q d M) : Q v H := q v H O R Rl.refl (IsX.of l)
theorem LE.go {M' : Mem} {O' : Own} {d : D} {M2 : Mem} (l : Rl p M O H M' O' H') (q : LE w p X B E σ r H M O Q d M2) : LE w p X B E σ r H' M' O' Q d M2 := fun v H2 O2 R2 l2 i2 => q v H2 O2 R2 (l.trans l2) i2
theorem LT.go {M' : Mem} {O' : Own} {d : Bool} {M2 : Mem} {Q : Bool → Hp → Prop} (l : Rl p M O H M' O' H') (q : LT p X B E σ r H M O Q d M2) : LT p X B E σ r H' M' O' Q d M2 := fun H2 O2 R2 l2 => q H2 O2 R2 (l.trans l2)
end

abbrev GO := D → D → Mem → (D → Mem → Prop) → Prop
abbrev GU := D → Mem → (D → Mem → Prop) → Prop
/-- a two-place operation over data -/
structure OpD (X : Cx) (f : Value → Value → Sem Value) (go : GO) : Prop where
  ex : ∃ rr : R2, OpR X f rr ∧ ∀ B E σ H r M O x y d e Q, Rep X B E σ H r M O → Is1 X.K (Av B M O) H x d → Is1 X.K (Av B M O) H y e → go d e M (LE true true X B E σ r H M O Q) → rr x y H Q
  mono : ∀ d e M Q Q', (∀ d M', Q d M' → Q' d M') → go d e M Q → go d e M Q'
/-- .. a one-place one -/
structure UnD (X : Cx) (f : Value → Sem Value) (go : GU) : Prop where
  ex : ∃ rr : V → Hp → VK → Prop, UnR X f rr ∧ ∀ B E σ H r M O x d Q, Rep X B E σ H r M O → Is1 X.K (Av B M O) H x d → go d M (LE true true X B E σ r H M O Q) → rr x H Q
  mono : ∀ d M Q Q', (∀ d M', Q d M' → Q' d M') → go d M Q → go d M Q'

def g2 (go : GO) (ga gb : GE) : GE := fun r M Q => ga r M fun d M1 => gb r M1 fun e M2 => go d e M2 Q
def g1 (go : GU) (ga : GE) : GE := fun r M Q => ga r M fun d M1 => go d M1 Q
def gB (g : GE) : GT := fun r M Q => g r M fun d M' => match d with
  | .bl b => Q b M'
  | _ => False
section
variable {X : Cx} {w w1 w2 p : Bool} {a b c e : Expr} {g ga gb gc : GE} {B : Addr → Prop} {E : En} {σ : L2.St} {H : Hp} {r : Fr} {M : Mem} {O : Own} {pos : Pos} {go : GO} {gu : GU}
theorem g2_mono (ha : ∀ r M Q Q', (∀ d M', Q d M' → Q' d M') → ga r M Q → ga r M Q') (hb : ∀ r M Q Q', (∀ d M', Q d M' → Q' d M') → gb r M Q → gb r M Q') (ho : ∀ d e M Q Q', (∀ d M', Q d M' → Q' d M') → go d e M Q → go d e M Q') :
    ∀ r M Q Q', (∀ d M', Q d M' → Q' d M') → g2 go ga gb r M Q → g2 go ga gb r M Q' := fun r M Q Q' h q => ha r M _ _ (fun d M1 q1 => hb r M1 _ _ (fun e M2 q2 => ho d e M2 _ _ h q2) q1) q
theorem de_op {op : Operator} (ho : OpD X (binaryOp op) go) (ha : DE w1 p X a ga) (hb : DE w2 p X b gb) (hw : (w1 || p) = true := by first | rfl | exact Bool.or_true _) : DE true p X (.BinOp a op b pos) (g2 go ga gb) := by
  obtain ⟨⟨rr, h1, h2⟩, hm⟩ := ho
  refine ⟨peI (pe_op h1 ha.run hb.run) fun σ H Q ⟨B, E, r, M, O, R, q⟩ => ?_, g2_mono ha.mono hb.mono hm⟩
  refine ha.on R q fun d M1 v H1 O1 k1 R1 l1 i1 => ?_
  refine hb.on R1 k1 fun e M2 u H2 O2 k2 R2 l2 i2 => ?_
  exact h2 B E σ H2 r M2 O2 v u d e Q R2 (IsX.one (IsX.next hw l2 i1)) i2.one (hm _ _ _ _ _ (fun z M' q3 v3 H3 O3 R3 l3 i3 => q3 v3 H3 O3 R3 ((l1.trans l2).trans l3.weak) i3) k2)
theorem de_un {op : UnaryOp} (ho : UnD X (unaryOp op) gu) (ha : DE w p X a ga) : DE true p X (.UnaryOp op a pos) (g1 gu ga) := by
  obtain ⟨⟨rr, h1, h2⟩, hm⟩ := ho
  refine ⟨peI (pe_un h1 ha.run) fun σ H Q ⟨B, E, r, M, O, R, q⟩ => ?_, fun r M Q Q' h q => ha.mono r M _ _ (fun d M1 q1 => hm d M1 _ _ h q1) q⟩
  refine ha.on R q fun d M1 v H1 O1 k1 R1 l1 i1 => ?_
  exact h2 B E σ H1 r M1 O1 v d Q R1 i1.one (hm _ _ _ _ (fun z M' q3 v3 H3 O3 R3 l3 i3 => q3 v3 H3 O3 R3 (l1.trans l3.weak) i3) k1)
theorem de_cmp {op : CmpOp} (ho : OpD X (compareOp op) go) (ha : DE w1 p X a ga) (hb : DE w2 p X b gb) (hm : behindInMarks op b = false := by first | exact nomark _ | with_unfolding_all rfl) (hw : (w1 || p) = true := by first | rfl | exact Bool.or_true _) :
    DE true p X (.Compare a [op] [b] pos) (g2 go ga gb) := by
  obtain ⟨⟨rr, h1, h2⟩, hmo⟩ := ho
  refine ⟨peI (pe_cmpR h1 ha.run hb.run hm) fun σ H Q ⟨B, E, r, M, O, R, q⟩ => ?_, g2_mono ha.mono hb.mono hmo⟩
  refine ha.on R q fun d M1 v H1 O1 k1 R1 l1 i1 => ?_
  refine hb.on R1 k1 fun e M2 u H2 O2 k2 R2 l2 i2 => ?_
  exact h2 B E σ H2 r M2 O2 v u d e Q R2 (IsX.one (IsX.next hw l2 i1)) i2.one (hmo _ _ _ _ _ (fun z M' q3 v3 H3 O3 R3 l3 i3 => q3 v3 H3 O3 R3 ((l1.trans l2).trans l3.weak) i3) k2)
theorem gB_mono (h : ∀ r M Q Q', (∀ d M', Q d M' → Q' d M') → g r M Q → g r M Q') : ∀ r M Q Q', (∀ d M', Q d M' → Q' d M') → gB g r M Q → gB g r M Q' := fun r M Q Q' hh q => h r M _ _ (fun d M1 q1 => by
  cases d with
  | bl b => exact hh _ _ q1
  | _ => exact q1) q
theorem dt_cmp {op : CmpOp} (ho : OpD X (compareOp op) go) (ha : DE w1 p X a ga) (hb : DE w2 p X b gb) (hm : behindInMarks op b = false := by first | exact nomark _ | with_unfolding_all rfl) (hw : (w1 || p) = true := by first | rfl | exact Bool.or_true _) :
    DT p X (.Compare a [op] [b] pos) (gB (g2 go ga gb)) := by
  obtain ⟨⟨rr, h1, h2⟩, hmo⟩ := ho
  refine ⟨ptI (pt_cmpR h1 ha.run hb.run hm) fun σ H Q ⟨B, E, r, M, O, R, q⟩ => ?_, gB_mono (g2_mono ha.mono hb.mono hmo)⟩
  refine ha.on R q fun d M1 v H1 O1 k1 R1 l1 i1 => ?_
  refine hb.on R1 k1 fun e M2 u H2 O2 k2 R2 l2 i2 => ?_
  refine h2 B E σ H2 r M2 O2 v u d e _ R2 (IsX.one (IsX.next hw l2 i1)) i2.one (hmo _ _ _ _ _ (fun z M' q3 v3 H3 O3 R3 l3 i3 => ?_) k2)
  have i3 : Is X.K (Av B M' O3) H3 v3 z := i3
  cases z with
  | bl b =>
    cases i3
    exact ⟨b, rfl, q3 H3 O3 R3 ((l1.trans l2).trans l3.weak)⟩
  | _ => exact q3.elim
/-- a value that is a truth, as a test -/
theorem dt_val (ha : DE w p X a ga) (he : ∀ whole, isTrue a X.env whole = (do let v ← whole; standAt a.pos; holding [v] (truthy v)) := by intro _; rfl) : DT p X a (gB ga) := by
  refine ⟨ptI (pt_val ha.run he) fun σ H Q ⟨B, E, r, M, O, R, q⟩ => ?_, gB_mono ha.mono⟩
  refine ha.on R q fun d M1 v H1 O1 k1 R1 l1 i1 => ?_
  cases d with
  | bl b =>
    have i2 : Is X.K (Av B M1 O1) H1 v (.bl b) := by
      cases w with
      | true => exact i1
      | false => exact i1
    cases i2
    exact ⟨b, rfl, k1 H1 O1 R1 l1⟩
  | _ => exact k1.elim

/-! ### and, or, not; if-else -/
def gAnd (t u : GT) : GT := fun r M Q => t r M fun c M1 => if c = true then u r M1 Q else Q false M1
def gOr (t u : GT) : GT := fun r M Q => t r M fun c M1 => if c = true then Q true M1 else u r M1 Q
def gNot (t : GT) : GT := fun r M Q => t r M fun c M1 => Q (!c) M1
variable {tA tB' gt gu' : GT} {rest : List Expr}
structure DW (p : Bool) (X : Cx) (e : Expr) (g : GT) : Prop where
  run : PW X e (fun σ H Q => ∃ B E r M O, Rep X B E σ H r M O ∧ g r M (LT p X B E σ r H M O Q))
  mono : ∀ r M Q Q', (∀ d M', Q d M' → Q' d M') → g r M Q → g r M Q'
theorem DW.dt (h : DW p X e gt) : DT p X e gt := ⟨PW.pt h.run, h.mono⟩
theorem dw_and1 (ha : DT p X a tA) : DW p X (.BoolOp .And [a] pos) tA := ⟨pw_and1 ha.run, ha.mono⟩
theorem dw_or1 (ha : DT p X a tA) : DW p X (.BoolOp .Or [a] pos) tA := ⟨pw_or1 ha.run, ha.mono⟩
theorem DW.on (ha : DW p X e gt) (R : Rep X B E σ H r M O) {k : Bool → Mem → Prop} (h : gt r M k) {Q : Bool → Hp → Prop}
    (hk : ∀ d M1 H1 O1, k d M1 → Rep X B E σ H1 r M1 O1 → Rl p M O H M1 O1 H1 → Q d H1) :
    ∃ B E r M O, Rep X B E σ H r M O ∧ gt r M (LT p X B E σ r H M O Q) :=
  ⟨B, E, r, M, O, R, ha.mono r M _ _ (fun d M1 h1 H1 O1 R1 l1 => hk d M1 H1 O1 h1 R1 l1) h⟩
theorem dw_and (ha : DT p X a tA) (hb : DW p X (.BoolOp .And (b :: rest) pos) tB') : DW p X (.BoolOp .And (a :: b :: rest) pos) (gAnd tA tB') := by
  refine ⟨pwI (pw_and ha.run hb.run) fun σ H Q ⟨B, E, r, M, O, R, q⟩ => ?_, fun r M Q Q' h q => ha.mono r M _ _ (fun c M1 q1 => ?_) q⟩
  · refine ha.on R q fun c M1 H1 O1 k1 R1 l1 => ?_
    cases c with
    | true =>
      rw [if_pos rfl] at k1 ⊢
      exact hb.on R1 k1 fun d M2 H2 O2 k2 R2 l2 => k2 H2 O2 R2 (l1.trans l2)
    | false =>
      rw [if_neg Bool.false_ne_true] at k1 ⊢
      exact k1 H1 O1 R1 l1
  · cases c with
    | true =>
      rw [if_pos rfl] at q1 ⊢
      exact hb.mono r M1 _ _ h q1
    | false =>
      rw [if_neg Bool.false_ne_true] at q1 ⊢
      exact h _ _ q1
theorem dw_or (ha : DT p X a tA) (hb : DW p X (.BoolOp .Or (b :: rest) pos) tB') : DW p X (.BoolOp .Or (a :: b :: rest) pos) (gOr tA tB') := by
  refine ⟨pwI (pw_or ha.run hb.run) fun σ H Q ⟨B, E, r, M, O, R, q⟩ => ?_, fun r M Q Q' h q => ha.mono r M _ _ (fun c M1 q1 => ?_) q⟩
  · refine ha.on R q fun c M1 H1 O1 k1 R1 l1 => ?_
    cases c with
    | false =>
      rw [if_neg Bool.false_ne_true] at k1 ⊢
      exact hb.on R1 k1 fun d M2 H2 O2 k2 R2 l2 => k2 H2 O2 R2 (l1.trans l2)
    | true =>
      rw [if_pos rfl] at k1 ⊢
      exact k1 H1 O1 R1 l1
  · cases c with
    | false =>
      rw [if_neg Bool.false_ne_true] at q1 ⊢
      exact hb.mono r M1 _ _ h q1
    | true =>
      rw [if_pos rfl] at q1 ⊢
      exact h _ _ q1
theorem dt_not (ha : DT p X a tA) : DT p X (.UnaryOp .Not a pos) (gNot tA) := by
  refine ⟨ptI (pt_not ha.run) fun σ H Q ⟨B, E, r, M, O, R, q⟩ => ?_, fun r M Q Q' h q => ha.mono r M _ _ (fun c M1 q1 => h _ _ q1) q⟩
  exact ha.on R q fun c M1 H1 O1 k1 R1 l1 => k1 H1 O1 R1 l1
/-- .. as values -/
def gAndV (ga gb : GE) : GE := fun r M Q => ga r M fun d M1 => match d with
  | .bl true => gb r M1 Q
  | .bl false => Q (.bl false) M1
  | _ => False
def gOrV (ga gb : GE) : GE := fun r M Q => ga r M fun d M1 => match d with
  | .bl true => Q (.bl true) M1
  | .bl false => gb r M1 Q
  | _ => False
def gNotV (ga : GE) : GE := fun r M Q => ga r M fun d M1 => match d with
  | .bl c => Q (.bl (!c)) M1
  | _ => False
theorem de_one {op} (h : DE w p X a ga) : DE w p X (.BoolOp op [a] pos) ga := ⟨pe_one h.run, h.mono⟩
theorem de_and (ha : DE true p X a ga) (hb : DE true p X (.BoolOp .And (b :: rest) pos) gb) : DE true p X (.BoolOp .And (a :: b :: rest) pos) (gAndV ga gb) := by
  refine ⟨peI (pe_and ha.run hb.run) fun σ H Q ⟨B, E, r, M, O, R, q⟩ => ?_, fun r M Q Q' h q => ha.mono r M _ _ (fun d M1 q1 => ?_) q⟩
  · refine ha.on R q fun d M1 v H1 O1 k1 R1 l1 i1 => ?_
    have i1 : Is X.K (Av B M1 O1) H1 v d := i1
    split at k1
    · cases i1
      refine ⟨true, rfl, ?_⟩
      rw [if_pos rfl]
      exact hb.on R1 k1 fun d M2 u H2 O2 k2 R2 l2 i2 => k2 u H2 O2 R2 (l1.trans l2) i2
    · cases i1
      refine ⟨false, rfl, ?_⟩
      rw [if_neg Bool.false_ne_true]
      exact k1 _ H1 O1 R1 l1 (Is.bl _)
    · exact k1.elim
  · split at q1
    · exact hb.mono r M1 _ _ h q1
    · exact h _ _ q1
    · exact q1.elim
theorem de_or (ha : DE true p X a ga) (hb : DE true p X (.BoolOp .Or (b :: rest) pos) gb) : DE true p X (.BoolOp .Or (a :: b :: rest) pos) (gOrV ga gb) := by
  refine ⟨peI (pe_or ha.run hb.run) fun σ H Q ⟨B, E, r, M, O, R, q⟩ => ?_, fun r M Q Q' h q => ha.mono r M _ _ (fun d M1 q1 => ?_) q⟩
  · refine ha.on R q fun d M1 v H1 O1 k1 R1 l1 i1 => ?_
    have i1 : Is X.K (Av B M1 O1) H1 v d := i1
    split at k1
    · cases i1
      refine ⟨true, rfl, ?_⟩
      rw [if_pos rfl]
      exact k1 _ H1 O1 R1 l1 (Is.bl _)
    · cases i1
      refine ⟨false, rfl, ?_⟩
      rw [if_neg Bool.false_ne_true]
      exact hb.on R1 k1 fun d M2 u H2 O2 k2 R2 l2 i2 => k2 u H2 O2 R2 (l1.trans l2) i2
    · exact k1.elim
  · split at q1
    · exact h _ _ q1
    · exact hb.mono r M1 _ _ h q1
    · exact q1.elim
theorem de_not (ha : DE true p X a ga) : DE true p X (.UnaryOp .Not a pos) (gNotV ga) := by
  refine ⟨peI (pe_not ha.run) fun σ H Q ⟨B, E, r, M, O, R, q⟩ => ?_, fun r M Q Q' h q => ha.mono r M _ _ (fun d M1 q1 => ?_) q⟩
  · refine ha.on R q fun d M1 v H1 O1 k1 R1 l1 i1 => ?_
    have i1 : Is X.K (Av B M1 O1) H1 v d := i1
    cases d with
    | bl c =>
      cases i1
      exact ⟨c, rfl, k1 _ H1 O1 R1 l1 (Is.bl _)⟩
    | _ => exact k1.elim
  · cases d with
    | bl c => exact h _ _ q1
    | _ => exact q1.elim
def gIf (t : GT) (ga gb : GE) : GE := fun r M Q => t r M fun c M1 => if c = true then ga r M1 Q else gb r M1 Q
theorem de_if (hc : DT p X c gt) (ha : DE w p X a ga) (hb : DE w p X b gb) : DE w p X (.IfExp c a b pos) (gIf gt ga gb) := by
  refine ⟨peI (pe_ifExp hc.run ha.run hb.run) fun σ H Q ⟨B, E, r, M, O, R, q⟩ => ?_, fun r M Q Q' h q => hc.mono r M _ _ (fun c M1 q1 => ?_) q⟩
  · refine hc.on R q fun c M1 H1 O1 k1 R1 l1 => ?_
    cases c with
    | true =>
      rw [if_pos rfl] at k1 ⊢
      exact ha.on R1 k1 fun d M2 u H2 O2 k2 R2 l2 i2 => k2 u H2 O2 R2 (l1.trans l2) i2
    | false =>
      rw [if_neg Bool.false_ne_true] at k1 ⊢
      exact hb.on R1 k1 fun d M2 u H2 O2 k2 R2 l2 i2 => k2 u H2 O2 R2 (l1.trans l2) i2
  · cases c with
    | true =>
      rw [if_pos rfl] at q1 ⊢
      exact ha.mono r M1 _ _ h q1
    | false =>
      rw [if_neg Bool.false_ne_true] at q1 ⊢
      exact hb.mono r M1 _ _ h q1
end
end DL

set_option Elab.async false
set_option linter.all false
set_option maxRecDepth 100000
/-! DL4: the operations themselves. -/
namespace DL
open PySem PySem.Spec PyProof.Rows L2

section
variable {K : PySem.W.Frag} {A : Addr → Prop} {H : Hp}
theorem is1_int {v : V} {i : Int} (h : Is1 K A H v (.int i)) : v = .int i := by
  have h : Is K A H v (.int i) := h
  cases h; rfl
theorem is1_bl {v : V} {i : Bool} (h : Is1 K A H v (.bl i)) : v = .bl i := by
  have h : Is K A H v (.bl i) := h
  cases h; rfl
theorem is1_str {v : V} {i : Str} (h : Is1 K A H v (.str i)) : v = .str i := by
  have h : Is K A H v (.str i) := h
  cases h; rfl
theorem is1_non {v : V} (h : Is1 K A H v .non) : v = .non := by
  have h : Is K A H v .non := h
  cases h; rfl
theorem is1_ref {v : V} {a : Addr} (h : Is1 K A H v (.ref a)) : v = .ref a := by
  have h : Is K A H v (.ref a) := h
  cases h; rfl
theorem Is1.dp : ∀ {v : V} {d : D}, Is1 K A H v d → d.pl = true → Dp K H v d.py
  | _, .non, h, e => Is.dp h e
  | _, .bl _, h, e => Is.dp h e
  | _, .int _, h, e => Is.dp h e
  | _, .str _, h, e => Is.dp h e
  | _, .ty _, h, e => by simp [D.pl] at e
  | _, .ref _, h, e => by simp [D.pl] at e
  | _, .tup _, ⟨a, vs, h1, h2, h3⟩, e => by
    subst h1
    exact .tup h2 (IsL.dp h3 (by simpa [D.pl] using e))
  | _, .lst _, ⟨a, vs, h1, h2, h3⟩, e => by
    subst h1
    exact .lst (SqL.of h2) (IsL.dp h3 (by simpa [D.pl] using e))
  | _, .dic _, h, e => by simp [D.pl] at e
end
/-- data of which == may be asked -/
def D.ok (d : D) : Bool := d.pl && SeqAt.shaped d.py
def D.eqv (d e : D) : Bool := PyData.eqv d.py e.py

/-- an operation on two ints alone -/
def goI (C : Int → Int → Prop) (f : Int → Int → D) : GO := fun d e M Q => match d, e with
  | .int i, .int j => C i j ∧ Q (f i j) M
  | _, _ => False
theorem goI_mono {C : Int → Int → Prop} {f : Int → Int → D} : ∀ d e M Q Q', (∀ d M', Q d M' → Q' d M') → goI C f d e M Q → goI C f d e M Q' := fun d e M Q Q' h q => by
  unfold goI at q ⊢
  split at q
  · exact ⟨q.1, h _ _ q.2⟩
  · exact q.elim
section
variable {X : Cx}
theorem opd_I {f : Value → Value → Sem Value} {C : Int → Int → Prop} {g : Int → Int → V} {g' : Int → Int → D} (h : OpR X f (rI C g)) (hg : ∀ A H i j, Is X.K A H (g i j) (g' i j)) : OpD X f (goI C g') where
  ex := ⟨_, h, fun B E σ H r M O x y d e Q R i1 i2 q => by
    unfold goI at q
    split at q
    · rename_i i j
      rw [is1_int i1, is1_int i2]
      exact ⟨i, j, rfl, rfl, q.1, fin_v R (hg _ _ _ _) q.2⟩
    · exact q.elim⟩
  mono := goI_mono
theorem rI_of0 {f : Value → Value → Sem Value} {g : Int → Int → V} (h : OpR X f (rI0 g)) : OpR X f (rI (fun _ _ => True) g) := by
  intro pins s σ H x y v u Q I rx ry ⟨i, j, e1, e2, _, q⟩
  exact h pins s σ H x y v u Q I rx ry ⟨i, j, e1, e2, q⟩
theorem od_sub : OpD X (binaryOp .Sub) (goI (fun _ _ => True) fun i j => .int (i - j)) := opd_I (rI_of0 op_sub) fun _ _ _ _ => .int _
theorem od_mod : OpD X (binaryOp .Mod) (goI (fun _ j => 0 < j) fun i j => .int (i % j)) := opd_I op_mod fun _ _ _ _ => .int _
theorem od_fdiv : OpD X (binaryOp .FloorDiv) (goI CDivW fun i j => .int (i / j)) := opd_I op_fdivW fun _ _ _ _ => .int _
theorem od_pow : OpD X (binaryOp .Pow) (goI CPow fun i j => .int (i ^ j.toNat)) := opd_I op_pow fun _ _ _ _ => .int _
theorem od_mulI : OpD X (binaryOp .Mult) (goI CMul fun i j => .int (i * j)) := opd_I op_mul fun _ _ _ _ => .int _
theorem od_lt : OpD X (compareOp .Lt) (goI (fun _ _ => True) fun i j => .bl (decide (i < j))) := opd_I (rI_of0 op_lt) fun _ _ _ _ => .bl _
theorem od_le : OpD X (compareOp .LtE) (goI (fun _ _ => True) fun i j => .bl (decide (i ≤ j))) := opd_I (rI_of0 op_le) fun _ _ _ _ => .bl _
theorem od_gt : OpD X (compareOp .Gt) (goI (fun _ _ => True) fun i j => .bl (decide (j < i))) := opd_I (rI_of0 op_gt) fun _ _ _ _ => .bl _
theorem od_ge : OpD X (compareOp .GtE) (goI (fun _ _ => True) fun i j => .bl (decide (j ≤ i))) := opd_I (rI_of0 op_ge) fun _ _ _ _ => .bl _
def guI (f : Int → D) : GU := fun d M Q => match d with
  | .int i => Q (f i) M
  | _ => False
theorem ud_neg : UnD X (unaryOp .USub) (guI fun i => .int (-i)) where
  ex := ⟨_, un_neg, fun B E σ H r M O x d Q R i1 q => by
    unfold guI at q
    split at q
    · rename_i i
      rw [is1_int i1]
      exact ⟨i, rfl, fin_v R (.int _) q⟩
    · exact q.elim⟩
  mono := fun d M Q Q' h q => by
    unfold guI at q ⊢
    split at q
    · exact h _ _ q
    · exact q.elim

/-- + -/
def goAdd : GO := fun d e M Q => match d, e with
  | .int i, .int j => Q (.int (i + j)) M
  | .str x, .str y => x.length + y.length ≤ sizeLine ∧ Q (.str (x ++ y)) M
  | .tup xs, .tup ys => xs.length + ys.length ≤ sizeLine ∧ Q (.tup (xs ++ ys)) M
  | .lst xs, .lst ys => xs.length + ys.length ≤ sizeLine ∧ Q (.lst (xs ++ ys)) M
  | _, _ => False
end
end DL
namespace DL
open PySem PySem.Spec PyProof.Rows L2
section
variable {X : Cx}
theorem fin_cat {B : Addr → Prop} {E : En} {σ : L2.St} {H : Hp} {r : Fr} {M : Mem} {O : Own} {Q : VK} {a b : Addr} {vs ws : List V} {xs ys : List D} (R : Rep X B E σ H r M O) (s1 : SqT X.K H a vs) (s2 : SqT X.K H b ws)
    (t1 : vs = [] → Is X.K (Av B M O) H (.ref b) (.tup ys)) (t2 : ws = [] → Is X.K (Av B M O) H (.ref a) (.tup xs)) (l1 : IsL X.K (Av B M O) H vs xs) (l2 : IsL X.K (Av B M O) H ws ys) (hz : xs.length + ys.length ≤ sizeLine)
    (q : LE true true X B E σ r H M O Q (.tup (xs ++ ys)) M) : rCatF X.K (.ref a) (.ref b) H Q := by
  refine ⟨a, b, vs, ws, rfl, rfl, s1, s2, by rw [l1.length, l2.length]; exact hz, fun e => ?_, fun e1 e2 => ?_, fun _ _ => ?_⟩
  · have e' : xs = [] := by
      subst e
      cases l1
      rfl
    subst e'
    exact fin_v R (t1 e) q
  · have e' : ys = [] := by
      subst e2
      cases l2
      rfl
    subst e'
    rw [List.append_nil] at q
    exact fin_v R (t2 e2) q
  · exact fin_tup R (l1.append l2) q
/-- + of strong operands (a tuple plus nothing is the tuple itself) -/
theorem od_addT {B : Addr → Prop} {E : En} {σ : L2.St} {H : Hp} {r : Fr} {M : Mem} {O : Own} {x y : V} {d e : D} {Q : VK} (R : Rep X B E σ H r M O) (i1 : Is X.K (Av B M O) H x d) (i2 : Is X.K (Av B M O) H y e)
    (q : goAdd d e M (LE true true X B E σ r H M O Q)) : (rI0 (fun i j => V.int (i + j)) x y H Q) ∨ (∃ i j, x = .str i ∧ y = .str j ∧ i.length + j.length ≤ sizeLine ∧ Q (.str (i ++ j)) H) ∨ rCatF X.K x y H Q ∨ rCat x y H Q := by
  unfold goAdd at q
  split at q
  · cases i1; cases i2
    exact .inl ⟨_, _, rfl, rfl, fin_v R (.int _) q⟩
  · cases i1; cases i2
    exact .inr (.inl ⟨_, _, rfl, rfl, q.1, fin_v R (.str _) q.2⟩)
  · cases i1 with
    | tup h1 l1 =>
      cases i2 with
      | tup h2 l2 => exact .inr (.inr (.inl (fin_cat R h1.sq h2.sq (fun _ => .tup h2 l2) (fun _ => .tup h1 l1) l1 l2 q.1 q.2)))
  · cases i1 with
    | lst h1 l1 =>
      cases i2 with
      | lst h2 l2 => exact .inr (.inr (.inr ⟨_, _, _, _, rfl, rfl, h1.2, h2.2, by rw [l1.length, l2.length]; exact q.1, fin_lst R (l1.append l2) q.2⟩))
  · exact q.elim
theorem goAdd_mono : ∀ d e M Q Q', (∀ d M', Q d M' → Q' d M') → goAdd d e M Q → goAdd d e M Q' := fun d e M Q Q' h q => by
  unfold goAdd at q ⊢
  split at q
  · exact h _ _ q
  · exact ⟨q.1, h _ _ q.2⟩
  · exact ⟨q.1, h _ _ q.2⟩
  · exact ⟨q.1, h _ _ q.2⟩
  · exact q.elim
theorem op_addAll : OpR X (binaryOp .Add) (fun x y H Q => (rI0 (fun i j => V.int (i + j)) x y H Q) ∨ (∃ i j, x = .str i ∧ y = .str j ∧ i.length + j.length ≤ sizeLine ∧ Q (.str (i ++ j)) H) ∨ rCatF X.K x y H Q ∨ rCat x y H Q) :=
  op_add.or (op_add_str.or (op_catF.or op_cat))
variable {w1 w2 p : Bool} {a b : Expr} {ga gb : GE} {pos : Pos}
/-- a + b, both kept apart -/
theorem de_add (ha : DE true p X a ga) (hb : DE true p X b gb) : DE true p X (.BinOp a .Add b pos) (g2 goAdd ga gb) := by
  refine ⟨peI (pe_op op_addAll ha.run hb.run) fun σ H Q ⟨B, E, r, M, O, R, q⟩ => ?_, g2_mono ha.mono hb.mono goAdd_mono⟩
  refine ha.on R q fun d M1 v H1 O1 k1 R1 l1 i1 => ?_
  refine hb.on R1 k1 fun e M2 u H2 O2 k2 R2 l2 i2 => ?_
  exact od_addT R2 (IsX.next (w := true) rfl l2 i1) i2 (goAdd_mono _ _ _ _ _ (fun z M' q3 v3 H3 O3 R3 l3 i3 => q3 v3 H3 O3 R3 ((l1.trans l2).trans l3.weak) i3) k2)
/-- a + b of lists and numbers, lent ones too -/
def goAddW : GO := fun d e M Q => match d, e with
  | .int i, .int j => Q (.int (i + j)) M
  | .lst xs, .lst ys => xs.length + ys.length ≤ sizeLine ∧ Q (.lst (xs ++ ys)) M
  | _, _ => False
theorem od_addW : OpD X (binaryOp .Add) goAddW where
  ex := ⟨_, op_add.or op_cat, fun B E σ H r M O x y d e Q R i1 i2 q => by
    unfold goAddW at q
    split at q
    · rw [is1_int i1, is1_int i2]
      exact .inl ⟨_, _, rfl, rfl, fin_v R (.int _) q⟩
    · obtain ⟨a, vs, e1, h1, l1⟩ := i1
      obtain ⟨b, ws, e2, h2, l2⟩ := i2
      exact .inr ⟨a, b, vs, ws, e1, e2, h1, h2, by rw [l1.length, l2.length]; exact q.1, fin_lst R (l1.append l2) q.2⟩
    · exact q.elim⟩
  mono := fun d e M Q Q' h q => by
    unfold goAddW at q ⊢
    split at q
    · exact h _ _ q
    · exact ⟨q.1, h _ _ q.2⟩
    · exact q.elim

/-! ### ==, !=, in -/
def goEq : GO := fun d e M Q => (d.ok = true ∧ e.ok = true) ∧ Q (.bl (d.eqv e)) M
def goNe : GO := fun d e M Q => (d.ok = true ∧ e.ok = true) ∧ Q (.bl (!d.eqv e)) M
theorem ok_and {d : D} (h : d.ok = true) : d.pl = true ∧ SeqAt.shaped d.py = true := Bool.and_eq_true_iff.mp h
theorem od_eq (hu : X.A.units + 64 < cLine) : OpD X (compareOp .Eq) goEq where
  ex := ⟨_, op_eqD hu, fun B E σ H r M O x y d e Q R i1 i2 q =>
    ⟨d.py, e.py, i1.dp (ok_and q.1.1).1, i2.dp (ok_and q.1.2).1, (ok_and q.1.1).2, (ok_and q.1.2).2, fin_v R (.bl _) q.2⟩⟩
  mono := fun d e M Q Q' h q => ⟨q.1, h _ _ q.2⟩
theorem od_ne (hu : X.A.units + 64 < cLine) : OpD X (compareOp .NotEq) goNe where
  ex := ⟨_, op_neD hu, fun B E σ H r M O x y d e Q R i1 i2 q =>
    ⟨d.py, e.py, i1.dp (ok_and q.1.1).1, i2.dp (ok_and q.1.2).1, (ok_and q.1.1).2, (ok_and q.1.2).2, fin_v R (.bl _) q.2⟩⟩
  mono := fun d e M Q Q' h q => ⟨q.1, h _ _ q.2⟩
/-- flat things -/
def D.flat : D → Bool
  | .non | .bl _ | .int _ | .str _ => true
  | _ => false
theorem flat_pl {d : D} (h : d.flat = true) : d.pl = true := by
  cases d <;> first | rfl | exact absurd (show false = true from h) Bool.false_ne_true
theorem flat_V {K : PySem.W.Frag} {A : Addr → Prop} {H : Hp} {v : V} {d : D} (i : Is1 K A H v d) (h : d.flat = true) : flatV v = true := by
  cases d with
  | non => rw [is1_non i]; rfl
  | bl b => rw [is1_bl i]; rfl
  | int b => rw [is1_int i]; rfl
  | str b => rw [is1_str i]; rfl
  | _ => exact absurd (show false = true from h) Bool.false_ne_true
theorem eqV_eqv {K : PySem.W.Frag} {A : Addr → Prop} {H : Hp} {v u : V} {d e : D} (i : Is1 K A H v d) (j : Is1 K A H u e) (h : d.flat = true) (h' : e.flat = true) : eqV v u = d.eqv e := by
  unfold D.eqv
  cases d with
  | non =>
    rw [is1_non i]
    cases e with
    | non => rw [is1_non j]; simp [eqV, D.py, PyData.eqv]
    | bl b => rw [is1_bl j]; simp [eqV, D.py, PyData.eqv]
    | int b => rw [is1_int j]; simp [eqV, D.py, PyData.eqv]
    | str b => rw [is1_str j]; simp [eqV, D.py, PyData.eqv]
    | _ => exact absurd (show false = true from h') Bool.false_ne_true
  | bl c =>
    rw [is1_bl i]
    cases e with
    | non => rw [is1_non j]; simp [eqV, D.py, PyData.eqv]
    | bl b => rw [is1_bl j]; simp [eqV, D.py, PyData.eqv]
    | int b => rw [is1_int j]; simp [eqV, D.py, PyData.eqv]
    | str b => rw [is1_str j]; simp [eqV, D.py, PyData.eqv]
    | _ => exact absurd (show false = true from h') Bool.false_ne_true
  | int c =>
    rw [is1_int i]
    cases e with
    | non => rw [is1_non j]; simp [eqV, D.py, PyData.eqv]
    | bl b => rw [is1_bl j]; simp [eqV, D.py, PyData.eqv]
    | int b => rw [is1_int j]; simp [eqV, D.py, PyData.eqv]
    | str b => rw [is1_str j]; simp [eqV, D.py, PyData.eqv]
    | _ => exact absurd (show false = true from h') Bool.false_ne_true
  | str c =>
    rw [is1_str i]
    cases e with
    | non => rw [is1_non j]; simp [eqV, D.py, PyData.eqv]
    | bl b => rw [is1_bl j]; simp [eqV, D.py, PyData.eqv]
    | int b => rw [is1_int j]; simp [eqV, D.py, PyData.eqv]
    | str b => rw [is1_str j]; simp [eqV, D.py, PyData.eqv]
    | _ => exact absurd (show false = true from h') Bool.false_ne_true
  | _ => exact absurd (show false = true from h) Bool.false_ne_true
theorem flats_V {K : PySem.W.Frag} {A : Addr → Prop} {H : Hp} : ∀ {vs : List V} {ds : List D}, IsL K A H vs ds → ds.all D.flat = true → vs.all flatV = true
  | _, _, .nil, _ => rfl
  | _, _, .cons i l, h => by
    rw [List.all_cons, Bool.and_eq_true] at h ⊢
    exact ⟨flat_V i.one h.1, flats_V l h.2⟩
theorem inV_any {K : PySem.W.Frag} {A : Addr → Prop} {H : Hp} {v : V} {d : D} (i : Is1 K A H v d) (h : d.flat = true) : ∀ {vs : List V} {ds : List D}, IsL K A H vs ds → ds.all D.flat = true → inV v vs = ds.any fun z => z.eqv d
  | _, _, .nil, _ => rfl
  | _, _, .cons j l, hh => by
    rw [List.all_cons, Bool.and_eq_true] at hh
    have t := inV_any i h l hh.2
    unfold inV at t ⊢
    rw [List.any_cons, List.any_cons, t, eqV_eqv j.one i hh.1 h]
def goIn (neg : Bool) : GO := fun d e M Q => match e with
  | .tup ds => (d.flat = true ∧ ds.all D.flat = true) ∧ Q (.bl (xor neg (ds.any fun z => z.eqv d))) M
  | .lst ds => (d.ok = true ∧ D.ok (.lst ds) = true) ∧ Q (.bl (xor neg (ds.any fun z => z.eqv d))) M
  | _ => False
theorem goIn_mono {neg : Bool} : ∀ d e M Q Q', (∀ d M', Q d M' → Q' d M') → goIn neg d e M Q → goIn neg d e M Q' := fun d e M Q Q' h q => by
  unfold goIn at q ⊢
  split at q
  · exact ⟨q.1, h _ _ q.2⟩
  · exact ⟨q.1, h _ _ q.2⟩
  · exact q.elim
theorem any_py (d : D) : ∀ ds : List D, ((D.pyL ds).any fun z => PyData.eqv z d.py) = ds.any fun z => z.eqv d
  | [] => rfl
  | e :: r => by
    rw [List.any_cons, ← any_py d r]
    simp only [D.pyL, List.any_cons, D.eqv]
theorem od_in (hu : X.A.units + 65 < cLine) : OpD X (compareOp .In) (goIn false) where
  ex := ⟨_, op_in_seq.or (op_inD hu), fun B E σ H r M O x y d e Q R i1 i2 q => by
    unfold goIn at q
    split at q
    · obtain ⟨a, vs, e2, h2, l2⟩ := i2
      refine .inl ⟨a, vs, e2, .inr h2, flat_V i1 q.1.1, flats_V l2 q.1.2, ?_⟩
      have q2 := q.2
      rw [← inV_any i1 q.1.1 l2 q.1.2, Bool.false_xor] at q2
      exact fin_v R (.bl _) q2
    · rename_i ds
      refine .inr ⟨d.py, D.pyL ds, i1.dp (ok_and q.1.1).1, i2.dp (ok_and q.1.2).1, (ok_and q.1.1).2, (ok_and q.1.2).2, ?_⟩
      have q2 := q.2
      rw [← any_py, Bool.false_xor] at q2
      exact fin_v R (.bl _) q2
    · exact q.elim⟩
  mono := goIn_mono
theorem od_notin (hu : X.A.units + 65 < cLine) : OpD X (compareOp .NotIn) (goIn true) where
  ex := ⟨_, op_notIn_seq.or (op_notInD hu), fun B E σ H r M O x y d e Q R i1 i2 q => by
    unfold goIn at q
    split at q
    · obtain ⟨a, vs, e2, h2, l2⟩ := i2
      refine .inl ⟨a, vs, e2, .inr h2, flat_V i1 q.1.1, flats_V l2 q.1.2, ?_⟩
      have q2 := q.2
      rw [← inV_any i1 q.1.1 l2 q.1.2, Bool.true_xor] at q2
      exact fin_v R (.bl _) q2
    · rename_i ds
      refine .inr ⟨d.py, D.pyL ds, i1.dp (ok_and q.1.1).1, i2.dp (ok_and q.1.2).1, (ok_and q.1.1).2, (ok_and q.1.2).2, ?_⟩
      have q2 := q.2
      rw [← any_py, Bool.true_xor] at q2
      exact fin_v R (.bl _) q2
    · exact q.elim⟩
  mono := goIn_mono
/-- is None, is not None -/
def D.isN : D → Bool
  | .non => true
  | _ => false
def goIsN (neg : Bool) : GO := fun d e M Q => match e with
  | .non => Q (.bl (xor neg d.isN)) M
  | _ => False
theorem isN_dec {K : PySem.W.Frag} {A : Addr → Prop} {H : Hp} {v : V} {d : D} (i : Is1 K A H v d) : decide (v = .non) = d.isN := by
  cases d with
  | non => rw [is1_non i]; rfl
  | bl b => rw [is1_bl i]; rfl
  | int b => rw [is1_int i]; rfl
  | str b => rw [is1_str i]; rfl
  | ty b =>
    have i : Is K A H v (.ty b) := i
    cases i; rfl
  | ref b => rw [is1_ref i]; rfl
  | tup b => obtain ⟨_, _, rfl, _⟩ := i; rfl
  | lst b => obtain ⟨_, _, rfl, _⟩ := i; rfl
  | dic b => obtain ⟨_, _, rfl, _⟩ := i; rfl
theorem goIsN_mono {neg : Bool} : ∀ d e M Q Q', (∀ d M', Q d M' → Q' d M') → goIsN neg d e M Q → goIsN neg d e M Q' := fun d e M Q Q' h q => by
  unfold goIsN at q ⊢
  split at q
  · exact h _ _ q
  · exact q.elim
theorem od_isN : OpD X (compareOp .Is) (goIsN false) where
  ex := ⟨_, op_isN, fun B E σ H r M O x y d e Q R i1 i2 q => by
    unfold goIsN at q
    split at q
    · refine ⟨is1_non i2, ?_⟩
      rw [Bool.false_xor, ← isN_dec i1] at q
      exact fin_v R (.bl _) q
    · exact q.elim⟩
  mono := goIsN_mono
theorem od_notN : OpD X (compareOp .IsNot) (goIsN true) where
  ex := ⟨_, op_notN, fun B E σ H r M O x y d e Q R i1 i2 q => by
    unfold goIsN at q
    split at q
    · refine ⟨is1_non i2, ?_⟩
      rw [Bool.true_xor, ← isN_dec i1] at q
      exact fin_v R (.bl _) q
    · exact q.elim⟩
  mono := goIsN_mono
end
end DL

set_option Elab.async false
set_option linter.all false
set_option maxRecDepth 100000
/-! DL5: argument lists, displays, built-in calls, subscripts, slices. -/
namespace DL
open PySem PySem.Spec PyProof.Rows L2

abbrev GA := Fr → Mem → (List D → Mem → Prop) → Prop
def IsXL (w : Bool) (K : PySem.W.Frag) (A : Addr → Prop) (H : Hp) : List V → List D → Prop
  | [], [] => True
  | v :: vs, d :: ds => IsX w K A H v d ∧ IsXL w K A H vs ds
  | _, _ => False
theorem isXL_strong {K : PySem.W.Frag} {A : Addr → Prop} {H : Hp} : ∀ {vs : List V} {ds : List D}, IsXL true K A H vs ds → IsL K A H vs ds
  | [], [], _ => .nil
  | v :: vs, d :: ds, ⟨h, t⟩ => .cons h (isXL_strong t)
  | [], _ :: _, h => h.elim
  | _ :: _, [], h => h.elim
theorem isXL_of {w : Bool} {K : PySem.W.Frag} {A : Addr → Prop} {H : Hp} : ∀ {vs : List V} {ds : List D}, IsL K A H vs ds → IsXL w K A H vs ds
  | _, _, .nil => trivial
  | _, _, .cons h t => ⟨IsX.of h, isXL_of t⟩
def LA (w p : Bool) (X : Cx) (B : Addr → Prop) (E : En) (σ : L2.St) (r : Fr) (H : Hp) (M : Mem) (O : Own) (Q : List V → Hp → Prop) : List D → Mem → Prop := fun ds M' =>
  ∀ vs H' O', Rep X B E σ H' r M' O' → Rl p M O H M' O' H' → IsXL w X.K (Av B M' O') H' vs ds → Q vs H'
structure DA (w p : Bool) (X : Cx) (es : List Expr) (g : GA) : Prop where
  run : PA X es (fun σ H Q => ∃ B E r M O, Rep X B E σ H r M O ∧ g r M (LA w p X B E σ r H M O Q))
  mono : ∀ r M Q Q', (∀ d M', Q d M' → Q' d M') → g r M Q → g r M Q'
theorem paI {X : Cx} {es : List Expr} {t t' : TA} (h : PA X es t) (i : ∀ σ H Q, t' σ H Q → t σ H Q) : PA X es t' := ⟨fun pos pins s σ H Q I q => h.run pos pins s σ H Q I (i σ H Q q)⟩
def gNil : GA := fun _ M Q => Q [] M
def gCons (ge : GE) (ga : GA) : GA := fun r M Q => ge r M fun d M1 => ga r M1 fun ds M2 => Q (d :: ds) M2
section
variable {X : Cx} {w w1 w2 p : Bool} {a b c e : Expr} {es : List Expr} {g ga gb gc : GE} {gs : GA} {B : Addr → Prop} {E : En} {σ : L2.St} {H : Hp} {r : Fr} {M : Mem} {O : Own} {pos : Pos}
theorem da_nil : DA w p X [] gNil := ⟨paI pa_nil fun σ H Q ⟨B, E, r, M, O, R, q⟩ => q [] H O R Rl.refl trivial, fun r M Q Q' h q => h _ _ q⟩
theorem DA.on (ha : DA w p X es gs) (R : Rep X B E σ H r M O) {k : List D → Mem → Prop} (h : gs r M k) {Q : List V → Hp → Prop}
    (hk : ∀ d M1 v H1 O1, k d M1 → Rep X B E σ H1 r M1 O1 → Rl p M O H M1 O1 H1 → IsXL w X.K (Av B M1 O1) H1 v d → Q v H1) :
    ∃ B E r M O, Rep X B E σ H r M O ∧ gs r M (LA w p X B E σ r H M O Q) :=
  ⟨B, E, r, M, O, R, ha.mono r M _ _ (fun d M1 h1 v H1 O1 R1 l1 i1 => hk d M1 v H1 O1 h1 R1 l1 i1) h⟩
theorem da_cons (ha : DE w p X e g) (hr : DA w p X es gs) (hw : (w || p) = true := by first | rfl | exact Bool.or_true _) (hs : starEach (e :: es) X.env = (false, eval e X.env) :: starEach es X.env := by rfl) : DA w p X (e :: es) (gCons g gs) := by
  refine ⟨paI (pa_cons ha.run hr.run hs) fun σ H Q ⟨B, E, r, M, O, R, q⟩ => ?_, fun r M Q Q' h q => ha.mono r M _ _ (fun d M1 q1 => hr.mono r M1 _ _ (fun ds M2 q2 => h _ _ q2) q1) q⟩
  refine ha.on R q fun d M1 v H1 O1 k1 R1 l1 i1 => ?_
  refine hr.on R1 k1 fun ds M2 vs H2 O2 k2 R2 l2 i2 => ?_
  exact k2 (v :: vs) H2 O2 R2 (l1.trans l2) ⟨IsX.next hw l2 i1, i2⟩
/-- the last argument, whatever it does -/
theorem da_one (ha : DE w p X e g) (hs : starEach [e] X.env = (false, eval e X.env) :: starEach [] X.env := by rfl) : DA w p X [e] (gCons g gNil) := by
  refine ⟨paI (pa_cons ha.run pa_nil hs) fun σ H Q ⟨B, E, r, M, O, R, q⟩ => ?_, fun r M Q Q' h q => ha.mono r M _ _ (fun d M1 q1 => h _ _ q1) q⟩
  exact ha.on R q fun d M1 v H1 O1 k1 R1 l1 i1 => k1 [v] H1 O1 R1 l1 ⟨i1, trivial⟩

/-! ### displays -/
def gTup (gs : GA) : GE := fun r M Q => gs r M fun ds M1 => Q (.tup ds) M1
def gLst (gs : GA) : GE := fun r M Q => gs r M fun ds M1 => Q (.lst ds) M1
theorem small_es {n : Nat} (h : n ≤ 60000) : n ≤ sizeLine := Nat.le_trans h (by decide)
theorem de_tup {x1} (hs : DA true p X es gs) (hz : ∀ r M Q, gs r M Q → gs r M fun ds M1 => ds.length ≤ sizeLine ∧ Q ds M1) : DE true p X (.Tuple es x1 pos) (gTup gs) := by
  refine ⟨peI (pe_tupF hs.run) fun σ H Q ⟨B, E, r, M, O, R, q⟩ => ?_, fun r M Q Q' h q => hs.mono r M _ _ (fun ds M1 q1 => h _ _ q1) q⟩
  refine hs.on R (hz _ _ _ q) fun ds M1 vs H1 O1 k1 R1 l1 i1 => ?_
  have i2 := isXL_strong i1
  exact ⟨by rw [i2.length]; exact k1.1, fin_tup R1 i2 (LE.go l1 k1.2)⟩
theorem de_lst (hs : DA true p X es gs) (hz : ∀ r M Q, gs r M Q → gs r M fun ds M1 => ds.length ≤ sizeLine ∧ Q ds M1) : DE true p X (.List es pos) (gLst gs) := by
  refine ⟨peI (pe_lst hs.run) fun σ H Q ⟨B, E, r, M, O, R, q⟩ => ?_, fun r M Q Q' h q => hs.mono r M _ _ (fun ds M1 q1 => h _ _ q1) q⟩
  refine hs.on R (hz _ _ _ q) fun ds M1 vs H1 O1 k1 R1 l1 i1 => ?_
  have i2 := isXL_strong i1
  exact ⟨by rw [i2.length]; exact k1.1, fin_lst R1 i2 (LE.go l1 k1.2)⟩
/-- how long a written list is -/
structure LenOf (n : Nat) (gs : GA) : Prop where
  h : ∀ r M Q, gs r M Q → gs r M fun ds M1 => ds.length = n ∧ Q ds M1
theorem len_nil : LenOf 0 gNil := ⟨fun r M Q q => ⟨rfl, q⟩⟩
theorem len_cons {n : Nat} (hm : ∀ r M Q Q', (∀ d M', Q d M' → Q' d M') → g r M Q → g r M Q') (hs : LenOf n gs) (hsm : ∀ r M Q Q', (∀ d M', Q d M' → Q' d M') → gs r M Q → gs r M Q') : LenOf (n + 1) (gCons g gs) :=
  ⟨fun r M Q q => hm r M _ _ (fun d M1 q1 => hsm r M1 _ _ (fun ds M2 q2 => ⟨congrArg (· + 1) q2.1, q2.2⟩) (hs.h _ _ _ q1)) q⟩
/-- an argument list with its length -/
structure DAn (w p : Bool) (X : Cx) (n : Nat) (es : List Expr) (gs : GA) : Prop where
  da : DA w p X es gs
  len : LenOf n gs
theorem an_nil : DAn w p X 0 [] gNil := ⟨da_nil, len_nil⟩
theorem an_cons {n : Nat} (ha : DE w p X e g) (hr : DAn w p X n es gs) (hw : (w || p) = true := by first | rfl | exact Bool.or_true _) (hs : starEach (e :: es) X.env = (false, eval e X.env) :: starEach es X.env := by rfl) : DAn w p X (n + 1) (e :: es) (gCons g gs) :=
  ⟨da_cons ha hr.da hw hs, len_cons ha.mono hr.len hr.da.mono⟩
theorem DAn.z {n : Nat} (h : DAn w p X n es gs) (hn : n ≤ sizeLine) : ∀ r M Q, gs r M Q → gs r M fun ds M1 => ds.length ≤ sizeLine ∧ Q ds M1 := fun r M Q q =>
  h.da.mono r M _ _ (fun ds M1 q1 => ⟨by rw [q1.1]; exact hn, q1.2⟩) (h.len.h _ _ _ q)
theorem de_tupN {x1} {n : Nat} (hs : DAn true p X n es gs) (hn : n ≤ sizeLine := by decide) : DE true p X (.Tuple es x1 pos) (gTup gs) := de_tup hs.da (hs.z hn)
theorem de_lstN {n : Nat} (hs : DAn true p X n es gs) (hn : n ≤ sizeLine := by decide) : DE true p X (.List es pos) (gLst gs) := de_lst hs.da (hs.z hn)

/-! ### calls of built-ins -/
abbrev GC := List D → Mem → (D → Mem → Prop) → Prop
structure CaD (X : Cx) (f : Value) (gc : GC) : Prop where
  ex : ∃ rr : List V → Hp → VK → Prop, CallR X f rr ∧ ∀ B E σ H r M O xs ds Q, Rep X B E σ H r M O → IsXL false X.K (Av B M O) H xs ds → gc ds M (LE true true X B E σ r H M O Q) → rr xs H Q
  mono : ∀ d M Q Q', (∀ d M', Q d M' → Q' d M') → gc d M Q → gc d M Q'
theorem isXL_weak {w : Bool} {K : PySem.W.Frag} {A : Addr → Prop} {H : Hp} : ∀ {vs : List V} {ds : List D}, IsXL w K A H vs ds → IsXL false K A H vs ds
  | [], [], _ => trivial
  | v :: vs, d :: ds, ⟨h, t⟩ => ⟨h.one, isXL_weak t⟩
  | [], _ :: _, h => h.elim
  | _ :: _, [], h => h.elim
def gCa (gc : GC) (gs : GA) : GE := fun r M Q => gs r M fun ds M1 => gc ds M1 Q
variable {gcl : GC} {x : Str} {id T : String} {pf : Pos}
theorem de_callB (hc : CaD X (.builtin id) gcl) (hg : Gl X x) (hm : X.mg x = none) (hv : bootBuiltins x = some (.builtin id)) (ha : DA w p X (e :: es) gs) (hn : x ≠ "__name__" := by decide) (hdb : (x == ("__debug__" : Str)) = false := by decide)
    (he : starEach (e :: es) X.env = (false, eval e X.env) :: starEach es X.env := by rfl) (hpl : (backTo pos (starEach es X.env)).any (·.1) = false := by rfl) : DE true p X (.Call (.Name x pf) (e :: es) [] pos) (gCa gcl gs) := by
  obtain ⟨⟨rr, h1, h2⟩, hmo⟩ := hc
  refine ⟨peI (pe_callB h1 hg hm hv ha.run hn hdb he hpl) fun σ H Q ⟨B, E, r, M, O, R, q⟩ => ?_, fun r M Q Q' h q => ha.mono r M _ _ (fun ds M1 q1 => hmo _ _ _ _ h q1) q⟩
  refine ha.on R q fun ds M1 vs H1 O1 k1 R1 l1 i1 => ?_
  exact h2 B E σ H1 r M1 O1 vs ds Q R1 (isXL_weak i1) (hmo _ _ _ _ (fun z M' q3 v3 H3 O3 R3 l3 i3 => q3 v3 H3 O3 R3 (l1.trans l3.weak) i3) k1)
theorem de_callTy (hc : CaD X (.type T) gcl) (hg : Gl X x) (hm : X.mg x = none) (hv : bootBuiltins x = some (.type T)) (ha : DA w p X (e :: es) gs) (hn : x ≠ "__name__" := by decide) (hdb : (x == ("__debug__" : Str)) = false := by decide)
    (he : starEach (e :: es) X.env = (false, eval e X.env) :: starEach es X.env := by rfl) (hpl : (backTo pos (starEach es X.env)).any (·.1) = false := by rfl) : DE true p X (.Call (.Name x pf) (e :: es) [] pos) (gCa gcl gs) := by
  obtain ⟨⟨rr, h1, h2⟩, hmo⟩ := hc
  refine ⟨peI (pe_callTy h1 hg hm hv ha.run hn hdb he hpl) fun σ H Q ⟨B, E, r, M, O, R, q⟩ => ?_, fun r M Q Q' h q => ha.mono r M _ _ (fun ds M1 q1 => hmo _ _ _ _ h q1) q⟩
  refine ha.on R q fun ds M1 vs H1 O1 k1 R1 l1 i1 => ?_
  exact h2 B E σ H1 r M1 O1 vs ds Q R1 (isXL_weak i1) (hmo _ _ _ _ (fun z M' q3 v3 H3 O3 R3 l3 i3 => q3 v3 H3 O3 R3 (l1.trans l3.weak) i3) k1)
/-- a built-in class as a value -/
theorem de_ty {T : String} (hg : Gl X x) (hm : X.mg x = none) (hv : bootBuiltins x = some (.type T)) (hn : x ≠ "__name__" := by decide) (hdb : (x == ("__debug__" : Str)) = false := by decide) : DE true p X (.Name x pos) (gC (.ty T)) :=
  ⟨peI (pe_bltn hg hm hv (v := .ty T) rfl hn hdb) fun σ H Q ⟨B, E, r, M, O, R, q⟩ => q _ H O R Rl.refl (.ty T), fun _ _ _ _ h q => h _ _ q⟩
theorem isXL1 {K : PySem.W.Frag} {A : Addr → Prop} {H : Hp} {vs : List V} {d : D} (h : IsXL false K A H vs [d]) : ∃ v, vs = [v] ∧ Is1 K A H v d := by
  match vs, h with
  | [v], ⟨i, _⟩ => exact ⟨v, rfl, i⟩
theorem isXL2 {K : PySem.W.Frag} {A : Addr → Prop} {H : Hp} {vs : List V} {d e : D} (h : IsXL false K A H vs [d, e]) : ∃ v u, vs = [v, u] ∧ Is1 K A H v d ∧ Is1 K A H u e := by
  match vs, h with
  | [v, u], ⟨i, j, _⟩ => exact ⟨v, u, rfl, i, j⟩
/-- len -/
def gcLen : GC := fun ds M Q => match ds with
  | [.lst xs] => Q (.int xs.length) M
  | [.tup xs] => Q (.int xs.length) M
  | [.str x] => x.length ≤ sizeLine ∧ Q (.int x.length) M
  | _ => False
theorem ca_len : CaD X (.builtin "len") gcLen where
  ex := ⟨_, call_len, fun B E σ H r M O xs ds Q R ii q => by
    unfold gcLen at q
    split at q
    · obtain ⟨v, rfl, a, vs, rfl, h1, l1⟩ := isXL1 ii
      exact ⟨.ref a, _, rfl, .inl ⟨vs, SqL.of h1, rfl⟩, by rw [l1.length]; exact fin_v R (.int _) q⟩
    · obtain ⟨v, rfl, a, vs, rfl, h1, l1⟩ := isXL1 ii
      exact ⟨.ref a, _, rfl, .inr ⟨vs, h1, rfl⟩, by rw [l1.length]; exact fin_v R (.int _) q⟩
    · obtain ⟨v, rfl, i⟩ := isXL1 ii
      rw [is1_str i]
      exact ⟨_, _, rfl, ⟨q.1, rfl⟩, fin_v R (.int _) q.2⟩
    · exact q.elim⟩
  mono := fun d M Q Q' h q => by
    unfold gcLen at q ⊢
    split at q
    · exact h _ _ q
    · exact h _ _ q
    · exact ⟨q.1, h _ _ q.2⟩
    · exact q.elim
/-- abs -/
def gcI1 (f : Int → D) : GC := fun ds M Q => match ds with
  | [.int i] => Q (f i) M
  | _ => False
theorem gcI1_mono {f : Int → D} : ∀ d M Q Q', (∀ d M', Q d M' → Q' d M') → gcI1 f d M Q → gcI1 f d M Q' := fun d M Q Q' h q => by
  unfold gcI1 at q ⊢
  split at q
  · exact h _ _ q
  · exact q.elim
theorem ca_abs : CaD X (.builtin "abs") (gcI1 fun i => .int (if i < 0 then -i else i)) where
  ex := ⟨_, call_abs, fun B E σ H r M O xs ds Q R ii q => by
    unfold gcI1 at q
    split at q
    · obtain ⟨v, rfl, i⟩ := isXL1 ii
      rw [is1_int i]
      exact ⟨_, rfl, fin_v R (.int _) q⟩
    · exact q.elim⟩
  mono := gcI1_mono
def gcI2 (f : Int → Int → D) : GC := fun ds M Q => match ds with
  | [.int i, .int j] => Q (f i j) M
  | _ => False
theorem gcI2_mono {f : Int → Int → D} : ∀ d M Q Q', (∀ d M', Q d M' → Q' d M') → gcI2 f d M Q → gcI2 f d M Q' := fun d M Q Q' h q => by
  unfold gcI2 at q ⊢
  split at q
  · exact h _ _ q
  · exact q.elim
theorem ca_max2 (hc : X.calm = true) : CaD X (.builtin "max") (gcI2 fun i j => .int (if j > i then j else i)) where
  ex := ⟨_, call_max2 hc, fun B E σ H r M O xs ds Q R ii q => by
    unfold gcI2 at q
    split at q
    · obtain ⟨v, u, rfl, i, j⟩ := isXL2 ii
      rw [is1_int i, is1_int j]
      exact ⟨_, _, rfl, fin_v R (.int _) q⟩
    · exact q.elim⟩
  mono := gcI2_mono
theorem ca_min2 (hc : X.calm = true) : CaD X (.builtin "min") (gcI2 fun i j => .int (if j < i then j else i)) where
  ex := ⟨_, call_min2 hc, fun B E σ H r M O xs ds Q R ii q => by
    unfold gcI2 at q
    split at q
    · obtain ⟨v, u, rfl, i, j⟩ := isXL2 ii
      rw [is1_int i, is1_int j]
      exact ⟨_, _, rfl, fin_v R (.int _) q⟩
    · exact q.elim⟩
  mono := gcI2_mono
/-- int(n), int(flag) -/
def gcInt : GC := fun ds M Q => match ds with
  | [.int i] => Q (.int i) M
  | [.bl b] => Q (.int (if b then 1 else 0)) M
  | _ => False
theorem ca_int : CaD X (.type "int") gcInt where
  ex := ⟨_, call_int1, fun B E σ H r M O xs ds Q R ii q => by
    unfold gcInt at q
    split at q
    · obtain ⟨v, rfl, i⟩ := isXL1 ii
      rw [is1_int i]
      exact .inl ⟨_, rfl, fin_v R (.int _) q⟩
    · obtain ⟨v, rfl, i⟩ := isXL1 ii
      rw [is1_bl i]
      exact .inr ⟨_, rfl, fin_v R (.int _) q⟩
    · exact q.elim⟩
  mono := fun d M Q Q' h q => by
    unfold gcInt at q ⊢
    split at q
    · exact h _ _ q
    · exact h _ _ q
    · exact q.elim
/-- tuple(xs), list(xs) -/
def gcTuple : GC := fun ds M Q => match ds with
  | [.lst xs] => Q (.tup xs) M
  | _ => False
def gcList : GC := fun ds M Q => match ds with
  | [.lst xs] => Q (.lst xs) M
  | [.tup xs] => Q (.lst xs) M
  | _ => False
theorem ca_tuple : CaD X (.type "tuple") gcTuple where
  ex := ⟨_, call_tuple_ofF, fun B E σ H r M O xs ds Q R ii q => by
    unfold gcTuple at q
    split at q
    · obtain ⟨v, rfl, a, vs, rfl, h1, l1⟩ := isXL1 ii
      exact ⟨a, vs, rfl, .inl ⟨SqL.of h1, fin_tup R l1 q⟩⟩
    · exact q.elim⟩
  mono := fun d M Q Q' h q => by
    unfold gcTuple at q ⊢
    split at q
    · exact h _ _ q
    · exact q.elim
theorem ca_list : CaD X (.type "list") gcList where
  ex := ⟨_, call_list_of, fun B E σ H r M O xs ds Q R ii q => by
    unfold gcList at q
    split at q
    · obtain ⟨v, rfl, a, vs, rfl, h1, l1⟩ := isXL1 ii
      exact ⟨a, vs, rfl, .inl (SqL.of h1), fin_lst R l1 q⟩
    · obtain ⟨v, rfl, a, vs, rfl, h1, l1⟩ := isXL1 ii
      exact ⟨a, vs, rfl, .inr h1, fin_lst R l1 q⟩
    · exact q.elim⟩
  mono := fun d M Q Q' h q => by
    unfold gcList at q ⊢
    split at q
    · exact h _ _ q
    · exact h _ _ q
    · exact q.elim
/-- tuple(t) of a tuple that is kept apart: itself -/
def gcTupleS : GC := fun ds M Q => match ds with
  | [.lst xs] => Q (.tup xs) M
  | [.tup xs] => Q (.tup xs) M
  | _ => False
theorem de_tupleS (hg : Gl X "tuple") (hm : X.mg "tuple" = none) (ha : DA true p X [e] gs) (he : starEach [e] X.env = (false, eval e X.env) :: starEach [] X.env := by rfl) (hpl : (backTo pos (starEach [] X.env)).any (·.1) = false := by rfl) : DE true p X (.Call (.Name "tuple" pf) [e] [] pos) (gCa gcTupleS gs) := by
  refine ⟨peI (pe_callTy call_tuple_ofF hg hm (by decide +kernel) ha.run (by decide) (by decide) he hpl) fun σ H Q ⟨B, E, r, M, O, R, q⟩ => ?_, fun r M Q Q' h q => ha.mono r M _ _ (fun ds M1 q1 => ?_) q⟩
  · refine ha.on R q fun ds M1 vs H1 O1 k1 R1 l1 i1 => ?_
    have i2 := isXL_strong i1
    unfold gcTupleS at k1
    split at k1
    · cases i2 with
      | cons i t =>
        cases t
        cases i with
        | lst h l => exact ⟨_, _, rfl, .inl ⟨SqL.of h.2, fin_tup R1 l (LE.go l1 k1)⟩⟩
    · cases i2 with
      | cons i t =>
        cases t
        cases i with
        | tup h l => exact ⟨_, _, rfl, .inr ⟨h.sq, fin_v R1 (.tup h l) (LE.go l1 k1)⟩⟩
    · exact k1.elim
  · unfold gcTupleS at q1 ⊢
    split at q1
    · exact h _ _ q1
    · exact h _ _ q1
    · exact q1.elim
/-- all, any of truths -/
def blsOf : List D → Option (List Bool)
  | [] => some []
  | .bl b :: r => (blsOf r).map (b :: ·)
  | _ => none
def intsOf : List D → Option (List Int)
  | [] => some []
  | .int b :: r => (intsOf r).map (b :: ·)
  | _ => none
theorem blsOf_map : ∀ bs : List Bool, blsOf (bs.map D.bl) = some bs
  | [] => rfl
  | b :: r => by simp [blsOf, blsOf_map r]
theorem intsOf_map : ∀ bs : List Int, intsOf (bs.map D.int) = some bs
  | [] => rfl
  | b :: r => by simp [intsOf, intsOf_map r]
theorem of_blsOf {K : PySem.W.Frag} {A : Addr → Prop} {H : Hp} : ∀ {vs : List V} {ds : List D} {bs : List Bool}, IsL K A H vs ds → blsOf ds = some bs → vs = bs.map V.bl
  | _, _, _, .nil, h => by
    cases h; rfl
  | _, d :: r, bs, .cons i l, h => by
    cases d with
    | bl b =>
      cases i
      simp only [blsOf, Option.map_eq_some_iff] at h
      obtain ⟨cs, h1, h2⟩ := h
      subst h2
      rw [of_blsOf l h1]; rfl
    | _ => simp [blsOf] at h
theorem of_intsOf {K : PySem.W.Frag} {A : Addr → Prop} {H : Hp} : ∀ {vs : List V} {ds : List D} {bs : List Int}, IsL K A H vs ds → intsOf ds = some bs → vs = bs.map V.int
  | _, _, _, .nil, h => by
    cases h; rfl
  | _, d :: r, bs, .cons i l, h => by
    cases d with
    | int b =>
      cases i
      simp only [intsOf, Option.map_eq_some_iff] at h
      obtain ⟨cs, h1, h2⟩ := h
      subst h2
      rw [of_intsOf l h1]; rfl
    | _ => simp [intsOf] at h
def gcBls (f : List Bool → Bool) : GC := fun ds M Q => match ds with
  | [.lst xs] => ∃ bs, blsOf xs = some bs ∧ Q (.bl (f bs)) M
  | _ => False
theorem gcBls_mono {f : List Bool → Bool} : ∀ d M Q Q', (∀ d M', Q d M' → Q' d M') → gcBls f d M Q → gcBls f d M Q' := fun d M Q Q' h q => by
  unfold gcBls at q ⊢
  split at q
  · obtain ⟨bs, e, q⟩ := q
    exact ⟨bs, e, h _ _ q⟩
  · exact q.elim
theorem ca_all (hc : CallR X (.builtin "all") (rAll X.K)) : CaD X (.builtin "all") (gcBls fun bs => bs.all _root_.id) where
  ex := ⟨_, hc, fun B E σ H r M O xs ds Q R ii q => by
    unfold gcBls at q
    split at q
    · obtain ⟨v, rfl, a, vs, rfl, h1, l1⟩ := isXL1 ii
      obtain ⟨bs, e, q⟩ := q
      rw [of_blsOf l1 e] at h1
      exact ⟨a, bs, rfl, SqL.of h1, fin_v R (.bl _) q⟩
    · exact q.elim⟩
  mono := gcBls_mono
theorem ca_any (hc : CallR X (.builtin "any") (rAny X.K)) : CaD X (.builtin "any") (gcBls fun bs => bs.any _root_.id) where
  ex := ⟨_, hc, fun B E σ H r M O xs ds Q R ii q => by
    unfold gcBls at q
    split at q
    · obtain ⟨v, rfl, a, vs, rfl, h1, l1⟩ := isXL1 ii
      obtain ⟨bs, e, q⟩ := q
      rw [of_blsOf l1 e] at h1
      exact ⟨a, bs, rfl, SqL.of h1, fin_v R (.bl _) q⟩
    · exact q.elim⟩
  mono := gcBls_mono
/-- sum, min, max of a list of ints -/
def gcSum : GC := fun ds M Q => match ds with
  | [.lst xs] => ∃ ns, intsOf xs = some ns ∧ Q (.int ns.sum) M
  | _ => False
theorem ca_sum (hc : X.calm = true) : CaD X (.builtin "sum") gcSum where
  ex := ⟨_, cr_sum hc, fun B E σ H r M O xs ds Q R ii q => by
    unfold gcSum at q
    split at q
    · obtain ⟨v, rfl, a, vs, rfl, h1, l1⟩ := isXL1 ii
      obtain ⟨bs, e, q⟩ := q
      rw [of_intsOf l1 e] at h1
      exact ⟨a, bs, rfl, SqL.of h1, fin_v R (.int _) q⟩
    · exact q.elim⟩
  mono := fun d M Q Q' h q => by
    unfold gcSum at q ⊢
    split at q
    · obtain ⟨bs, e, q⟩ := q
      exact ⟨bs, e, h _ _ q⟩
    · exact q.elim
def gcMin : GC := fun ds M Q => match ds with
  | [.lst xs] => ∃ ns, intsOf xs = some ns ∧ 0 < ns.length ∧ ∀ m, m ∈ ns → (∀ y ∈ ns, m ≤ y) → Q (.int m) M
  | _ => False
theorem ca_min (hc : X.calm = true) : CaD X (.builtin "min") gcMin where
  ex := ⟨_, cr_min hc, fun B E σ H r M O xs ds Q R ii q => by
    unfold gcMin at q
    split at q
    · obtain ⟨v, rfl, a, vs, rfl, h1, l1⟩ := isXL1 ii
      obtain ⟨bs, e, h0, q⟩ := q
      rw [of_intsOf l1 e] at h1
      exact ⟨a, bs, rfl, SqL.of h1, h0, fun m hm hy => fin_v R (.int _) (q m hm hy)⟩
    · exact q.elim⟩
  mono := fun d M Q Q' h q => by
    unfold gcMin at q ⊢
    split at q
    · obtain ⟨bs, e, h0, q⟩ := q
      exact ⟨bs, e, h0, fun m hm hy => h _ _ (q m hm hy)⟩
    · exact q.elim
def gcMax : GC := fun ds M Q => match ds with
  | [.lst xs] => ∃ ns, intsOf xs = some ns ∧ 0 < ns.length ∧ ∀ m, m ∈ ns → (∀ y ∈ ns, y ≤ m) → Q (.int m) M
  | _ => False
theorem ca_max (hc : X.calm = true) : CaD X (.builtin "max") gcMax where
  ex := ⟨_, cr_max hc, fun B E σ H r M O xs ds Q R ii q => by
    unfold gcMax at q
    split at q
    · obtain ⟨v, rfl, a, vs, rfl, h1, l1⟩ := isXL1 ii
      obtain ⟨bs, e, h0, q⟩ := q
      rw [of_intsOf l1 e] at h1
      exact ⟨a, bs, rfl, SqL.of h1, h0, fun m hm hy => fin_v R (.int _) (q m hm hy)⟩
    · exact q.elim⟩
  mono := fun d M Q Q' h q => by
    unfold gcMax at q ⊢
    split at q
    · obtain ⟨bs, e, h0, q⟩ := q
      exact ⟨bs, e, h0, fun m hm hy => h _ _ (q m hm hy)⟩
    · exact q.elim
/-- isinstance of data and a built-in class -/
def D.tyN : D → Option String
  | .non => some "NoneType"
  | .bl _ => some "bool"
  | .int _ => some "int"
  | .str _ => some "str"
  | .tup _ => some "tuple"
  | .lst _ => some "list"
  | .dic _ => some "dict"
  | _ => none
def isTy (t : String) (c : String) : Bool := t == c || (t == "bool" && c == "int")
def gcIsi : GC := fun ds M Q => match ds with
  | [d, .ty c] => ["int", "bool", "str", "tuple", "list", "dict"].contains c = true ∧ ∃ t, d.tyN = some t ∧ Q (.bl (isTy t c)) M
  | _ => False
theorem kit_tbl : ∀ t ∈ ["NoneType", "bool", "int", "str", "tuple", "list", "dict"], ∀ c ∈ ["int", "bool", "str", "tuple", "list", "dict"], kitB t c = some (isTy t c) := by decide +kernel
theorem tyX_of {K : PySem.W.Frag} {A : Addr → Prop} {H : Hp} {v : V} {t : String} : ∀ {d : D}, Is1 K A H v d → d.tyN = some t → TyX K H v (.type t) ∧ t ∈ ["NoneType", "bool", "int", "str", "tuple", "list", "dict"]
  | .non, i, e => by cases e; rw [is1_non i]; exact ⟨.base .non, by decide⟩
  | .bl _, i, e => by cases e; rw [is1_bl i]; exact ⟨.base (.bl _), by decide⟩
  | .int _, i, e => by cases e; rw [is1_int i]; exact ⟨.base (.int _), by decide⟩
  | .str _, i, e => by cases e; rw [is1_str i]; exact ⟨.base (.str _), by decide⟩
  | .ty _, i, e => by cases e
  | .ref _, i, e => by cases e
  | .lst _, ⟨a, vs, h1, h2, h3⟩, e => by cases e; rw [h1]; exact ⟨.base (.lst h2), by decide⟩
  | .dic _, ⟨a, vs, h1, h2, h3⟩, e => by
    cases e; rw [h1]
    rcases h2 with h2 | ⟨o, h2⟩
    · exact ⟨.base (.dK h2), by decide⟩
    · exact ⟨.fDict h2, by decide⟩
  | .tup _, ⟨a, vs, h1, h2, h3⟩, e => by
    cases e; rw [h1]
    refine ⟨?_, by decide⟩
    rcases h2.sq with (h2 | ⟨o, h2⟩) | ⟨o, its, n, hk, hc, _⟩
    · exact .base (.tup h2)
    · exact .fTuple h2
    · exact .kTuple hk hc
theorem ca_isi : CaD X (.builtin "isinstance") gcIsi where
  ex := ⟨_, call_isi, fun B E σ H r M O xs ds Q R ii q => by
    unfold gcIsi at q
    split at q
    · rename_i d c
      obtain ⟨v, u, rfl, i, j⟩ := isXL2 ii
      have j : Is X.K (Av B M O) H u (.ty c) := j
      cases j
      obtain ⟨hc, t, ht, q⟩ := q
      obtain ⟨hx, hm⟩ := tyX_of i ht
      exact ⟨v, .ty c, _, _, _, rfl, .ty c, hx, kit_ty (kit_tbl t hm c (by simpa using hc)), fin_v R (.bl _) q⟩
    · exact q.elim⟩
  mono := fun d M Q Q' h q => by
    unfold gcIsi at q ⊢
    split at q
    · obtain ⟨hc, t, ht, q⟩ := q
      exact ⟨hc, t, ht, h _ _ q⟩
    · exact q.elim
end
end DL

set_option Elab.async false
set_option linter.all false
set_option maxRecDepth 100000
/-! DL6: subscripts, slices, chains, truth; statements. -/
namespace DL
open PySem PySem.Spec PyProof.Rows L2

section
variable {X : Cx} {w w1 w2 w3 p : Bool} {a b c e : Expr} {es : List Expr} {g ga gb gc : GE} {gs : GA} {B : Addr → Prop} {E : En} {σ : L2.St} {H : Hp} {r : Fr} {M : Mem} {O : Own} {pos : Pos}
/-! ### subscripts -/
theorem IsL.at {K : PySem.W.Frag} {A : Addr → Prop} {vs : List V} {ds : List D} {i : Int} {z : D} (l : IsL K A H vs ds) (h : atI ds i = some z) : ∃ v, atI vs i = some v ∧ Is K A H v z := by
  unfold atI at h ⊢
  rw [l.length]
  cases q : ixN ds.length i with
  | none => rw [q] at h; cases h
  | some j =>
    rw [q] at h
    exact l.get (show ds[j]? = some z from h)
def goIx : GO := fun d e M Q => match d, e with
  | .lst xs, .int i => match atI xs i with
    | some z => Q z M
    | none => False
  | .tup xs, .int i => match atI xs i with
    | some z => Q z M
    | none => False
  | .str x, .int i => x.length ≤ sizeLine ∧ match atI x.cps.toList i with
    | some c => Q (.str ⟨#[c]⟩) M
    | none => False
  | _, _ => False
theorem goIx_mono : ∀ d e M Q Q', (∀ d M', Q d M' → Q' d M') → goIx d e M Q → goIx d e M Q' := fun d e M Q Q' h q => by
  unfold goIx at q ⊢
  split at q
  · split at q
    · exact h _ _ q
    · exact q.elim
  · split at q
    · exact h _ _ q
    · exact q.elim
  · refine ⟨q.1, ?_⟩
    have q2 := q.2
    split at q2
    · exact h _ _ q2
    · exact q2.elim
  · exact q.elim
theorem de_ix (ha : DE w1 p X a ga) (hb : DE w2 p X b gb) (hs : PlainIx b := by intro _ _; rfl) (hw : (w1 || p) = true := by first | rfl | exact Bool.or_true _) : DE true p X (.Subscript a b pos) (g2 goIx ga gb) := by
  refine ⟨peI (pe_ix ix_seq ha.run hb.run hs) fun σ H Q ⟨B, E, r, M, O, R, q⟩ => ?_, g2_mono ha.mono hb.mono goIx_mono⟩
  refine ha.on R q fun d M1 v H1 O1 k1 R1 l1 i1 => ?_
  refine hb.on R1 k1 fun e M2 u H2 O2 k2 R2 l2 i2 => ?_
  have j1 := IsX.one (IsX.next hw l2 i1)
  have j2 := i2.one
  have fin : ∀ {z v}, LE true p X B E σ r H M O Q z M2 → Is X.K (Av B M2 O2) H2 v z → Q v H2 := fun {z v} q3 i3 => q3 v H2 O2 R2 (l1.trans l2) i3
  unfold goIx at k2
  split at k2
  · obtain ⟨a, vs, rfl, h1, l1'⟩ := j1
    rw [is1_int j2]
    split at k2
    · rename_i z hz
      obtain ⟨x, hx, ix⟩ := l1'.at hz
      exact .inl ⟨a, vs, _, x, rfl, rfl, SqL.of h1, hx, fin k2 ix⟩
    · exact k2.elim
  · obtain ⟨a, vs, rfl, h1, l1'⟩ := j1
    rw [is1_int j2]
    split at k2
    · rename_i z hz
      obtain ⟨x, hx, ix⟩ := l1'.at hz
      exact .inr (.inl ⟨a, vs, _, x, rfl, rfl, h1, hx, fin k2 ix⟩)
    · exact k2.elim
  · rw [is1_str j1, is1_int j2]
    obtain ⟨hl, k2⟩ := k2
    split at k2
    · rename_i z hz
      exact .inr (.inr ⟨_, _, _, rfl, rfl, hl, hz, fin k2 (.str _)⟩)
    · exact k2.elim
  · exact k2.elim

/-! ### slices -/
abbrev GO' := Fr → Mem → (Option Int → Mem → Prop) → Prop
structure DO (p : Bool) (X : Cx) (e : Option Expr) (g : GO') : Prop where
  run : PO X e (fun σ H Q => ∃ B E r M O, Rep X B E σ H r M O ∧ g r M (fun o M' => ∀ H' O', Rep X B E σ H' r M' O' → Rl p M O H M' O' H' → Q o H'))
  mono : ∀ r M Q Q', (∀ d M', Q d M' → Q' d M') → g r M Q → g r M Q'
theorem poI {X : Cx} {e : Option Expr} {t t' : TO} (h : PO X e t) (i : ∀ σ H Q, t' σ H Q → t σ H Q) : PO X e t' := ⟨fun pins s σ H Q I q => h.run pins s σ H Q I (i σ H Q q)⟩
def gNoP : GO' := fun _ M Q => Q none M
def gPart (g : GE) : GO' := fun r M Q => g r M fun d M1 => match d with
  | .int i => Q (some i) M1
  | _ => False
theorem do_none : DO p X none gNoP := ⟨poI po_none fun σ H Q ⟨B, E, r, M, O, R, q⟩ => q H O R Rl.refl, fun _ _ _ _ h q => h _ _ q⟩
theorem do_some (ha : DE w p X a ga) : DO p X (some a) (gPart ga) := by
  refine ⟨poI (po_some ha.run) fun σ H Q ⟨B, E, r, M, O, R, q⟩ => ?_, fun r M Q Q' h q => ha.mono r M _ _ (fun d M1 q1 => ?_) q⟩
  · refine ha.on R q fun d M1 v H1 O1 k1 R1 l1 i1 => ?_
    split at k1
    · exact ⟨_, is1_int i1.one, k1 H1 O1 R1 l1⟩
    · exact k1.elim
  · split at q1
    · exact h _ _ q1
    · exact q1.elim
theorem DO.on {o : Option Expr} {gO : GO'} (ha : DO p X o gO) (R : Rep X B E σ H r M O) {k : Option Int → Mem → Prop} (h : gO r M k) {Q : Option Int → Hp → Prop}
    (hk : ∀ d M1 H1 O1, k d M1 → Rep X B E σ H1 r M1 O1 → Rl p M O H M1 O1 H1 → Q d H1) :
    ∃ B E r M O, Rep X B E σ H r M O ∧ gO r M (fun o M' => ∀ H' O', Rep X B E σ H' r M' O' → Rl p M O H M' O' H' → Q o H') :=
  ⟨B, E, r, M, O, R, ha.mono r M _ _ (fun d M1 h1 H1 O1 R1 l1 => hk d M1 H1 O1 h1 R1 l1) h⟩
def cutD (xs : List D) (lo hi : Option Int) : List D := (xs.drop (HT.sIx xs.length 0 lo)).take (HT.sIx xs.length xs.length hi - HT.sIx xs.length 0 lo)
theorem IsL.cut {K : PySem.W.Frag} {A : Addr → Prop} {vs : List V} {ds : List D} (lo hi : Option Int) (l : IsL K A H vs ds) : IsL K A H (cutV vs lo hi) (cutD ds lo hi) := by
  unfold cutV cutD
  rw [l.length]
  exact (l.drop _).take _
/-- of lists and texts, lent ones too; of tuples that are kept apart -/
def gsSl (w : Bool) (ga : GE) (gl gh : GO') : GE := fun r M Q => ga r M fun d M1 => gl r M1 fun lo M2 => gh r M2 fun hi M3 => match d with
  | .lst xs => Q (.lst (cutD xs lo hi)) M3
  | .tup xs => w = true ∧ Q (.tup (cutD xs lo hi)) M3
  | .str x => x.length ≤ sizeLine ∧ Q (.str (cutS x lo hi)) M3
  | _ => False
theorem sIx_all (xs : List V) (lo hi : Option Int) (h : HT.sIx xs.length 0 lo = 0 ∧ HT.sIx xs.length xs.length hi = xs.length) : cutV xs lo hi = xs := by
  unfold cutV
  rw [h.1, h.2, List.drop_zero, Nat.sub_zero, List.take_length]
theorem de_sl {lo hi : Option Expr} {gl gh : GO'} {p2 : Pos} (ha : DE w p X a ga) (hl : DO p X lo gl) (hh : DO p X hi gh) (hw : (w || p) = true := by first | rfl | exact Bool.or_true _) :
    DE true p X (.Subscript a (.Slice lo hi none p2) pos) (gsSl w ga gl gh) := by
  refine ⟨peI (pe_slice (sl_list.or (sl_tupF.or sl_str)) ha.run hl.run hh.run) fun σ H Q ⟨B, E, r, M, O, R, q⟩ => ?_,
    fun r M Q Q' h q => ha.mono r M _ _ (fun d M1 q1 => hl.mono r M1 _ _ (fun lo M2 q2 => hh.mono r M2 _ _ (fun hi M3 q3 => ?_) q2) q1) q⟩
  · refine ha.on R q fun d M1 v H1 O1 k1 R1 l1 i1 => ?_
    refine hl.on R1 k1 fun lo M2 H2 O2 k2 R2 l2 => ?_
    refine hh.on R2 k2 fun hi M3 H3 O3 k3 R3 l3 => ?_
    have lz := (l1.trans l2).trans l3
    have j := IsX.next hw l3 (IsX.next hw l2 i1)
    split at k3
    · obtain ⟨a, vs, rfl, h1, l1'⟩ := j.one
      exact .inl ⟨a, vs, rfl, SqL.of h1, fin_lst R3 (l1'.cut _ _) (LE.go lz k3)⟩
    · rename_i xs
      obtain ⟨rfl, k3⟩ := k3
      have j : Is X.K (Av B M3 O3) H3 v (.tup xs) := j
      cases j with
      | @tup a vs _ h l =>
        refine .inr (.inl ⟨a, vs, rfl, h.sq, fun hz => ?_, fun _ => fin_tup R3 (l.cut _ _) (LE.go lz k3)⟩)
        have e := sIx_all vs _ _ hz
        have l2' := l.cut lo hi
        rw [e] at l2'
        exact fin_v R3 (.tup h l2') (LE.go lz k3)
    · rw [is1_str j.one]
      exact .inr (.inr ⟨_, rfl, k3.1, fin_v R3 (.str _) (LE.go lz k3.2)⟩)
    · exact k3.elim
  · split at q3
    · exact h _ _ q3
    · exact ⟨q3.1, h _ _ q3.2⟩
    · exact ⟨q3.1, h _ _ q3.2⟩
    · exact q3.elim
/-- xs[::-1] of a list -/
def goRev : GU := fun d M Q => match d with
  | .lst xs => Q (.lst xs.reverse) M
  | _ => False
theorem de_revL {k : Nat} {p1 p2 p3 : Pos} (ha : DE w p X a ga) : DE true p X (.Subscript a (.Slice none none (some (.UnaryOp .USub (.Constant (.int 1) k p1) p2)) p3) pos) (g1 goRev ga) := by
  refine ⟨peI (pe_revL ha.run) fun σ H Q ⟨B, E, r, M, O, R, q⟩ => ?_, fun r M Q Q' h q => ha.mono r M _ _ (fun d M1 q1 => ?_) q⟩
  · refine ha.on R q fun d M1 v H1 O1 k1 R1 l1 i1 => ?_
    unfold goRev at k1
    split at k1
    · obtain ⟨a, vs, rfl, h1, l1'⟩ := i1.one
      exact ⟨a, vs, rfl, SqL.of h1, fin_lst R1 l1'.reverse (LE.go l1 k1)⟩
    · exact k1.elim
  · unfold goRev at q1 ⊢
    split at q1
    · exact h _ _ q1
    · exact q1.elim

/-! ### a <= b <= c -/
variable {go go' : GO}
def gCh (go go' : GO) (ga gb gc : GE) : GE := fun r M Q => ga r M fun d M1 => gb r M1 fun e M2 => go d e M2 fun z M3 => match z with
  | .bl true => gc r M3 fun f M4 => go' e f M4 Q
  | .bl false => Q (.bl false) M3
  | _ => False
theorem gCh_mono (ha : ∀ r M Q Q', (∀ d M', Q d M' → Q' d M') → ga r M Q → ga r M Q') (hb : ∀ r M Q Q', (∀ d M', Q d M' → Q' d M') → gb r M Q → gb r M Q') (hc : ∀ r M Q Q', (∀ d M', Q d M' → Q' d M') → gc r M Q → gc r M Q')
    (ho : ∀ d e M Q Q', (∀ d M', Q d M' → Q' d M') → go d e M Q → go d e M Q') (ho' : ∀ d e M Q Q', (∀ d M', Q d M' → Q' d M') → go' d e M Q → go' d e M Q') :
    ∀ r M Q Q', (∀ d M', Q d M' → Q' d M') → gCh go go' ga gb gc r M Q → gCh go go' ga gb gc r M Q' := fun r M Q Q' h q =>
  ha r M _ _ (fun d M1 q1 => hb r M1 _ _ (fun e M2 q2 => ho d e M2 _ _ (fun z M3 q3 => by
    split at q3
    · exact hc r M3 _ _ (fun f M4 q4 => ho' e f M4 _ _ h q4) q3
    · exact h _ _ q3
    · exact q3.elim) q2) q1) q
theorem de_chain {op op' : CmpOp} (ho : OpD X (compareOp op) go) (ho' : OpD X (compareOp op') go') (ha : DE true p X a ga) (hb : DE true p X b gb) (hc : DE w p X c gc) (hm : lastMarks [op, op'] [b, c] = false := by with_unfolding_all rfl) :
    DE true p X (.Compare a [op, op'] [b, c] pos) (gCh go go' ga gb gc) := by
  obtain ⟨⟨rr, h1, h2⟩, hmo⟩ := ho
  obtain ⟨⟨rr', h1', h2'⟩, hmo'⟩ := ho'
  refine ⟨peI (pe_chain h1 h1' ha.run hb.run hc.run hm) fun σ H Q ⟨B, E, r, M, O, R, q⟩ => ?_, gCh_mono ha.mono hb.mono hc.mono hmo hmo'⟩
  refine ha.on R q fun d M1 v H1 O1 k1 R1 l1 i1 => ?_
  refine hb.on R1 k1 fun e M2 u H2 O2 k2 R2 l2 i2 => ?_
  refine h2 B E σ H2 r M2 O2 v u d e _ R2 (IsX.one (IsX.next rfl l2 i1)) i2.one (hmo _ _ _ _ _ (fun z M3 q3 v3 H3 O3 R3 l3 i3 => ?_) k2)
  have i3 : Is X.K (Av B M3 O3) H3 v3 z := i3
  split at q3
  · cases i3
    refine ⟨true, rfl, ?_⟩
    rw [if_pos rfl]
    refine hc.on R3 q3 fun f M4 t H4 O4 k4 R4 l4 i4 => ?_
    exact h2' B E σ H4 r M4 O4 u t e f Q R4 (IsX.one (IsX.next (w := true) (p := p) rfl (l3.weak.trans l4) i2)) i4.one (hmo' _ _ _ _ _ (fun z' M5 q5 v5 H5 O5 R5 l5 i5 => q5 v5 H5 O5 R5 ((((l1.trans l2).trans l3.weak).trans l4).trans l5.weak) i5) k4)
  · cases i3
    refine ⟨false, rfl, ?_⟩
    rw [if_neg Bool.false_ne_true]
    exact q3 _ H3 O3 R3 ((l1.trans l2).trans l3.weak) (Is.bl _)
  · exact q3.elim
theorem dt_chain {op op' : CmpOp} (ho : OpD X (compareOp op) go) (ho' : OpD X (compareOp op') go') (ha : DE true p X a ga) (hb : DE true p X b gb) (hc : DE w p X c gc) (hm : lastMarks [op, op'] [b, c] = false := by with_unfolding_all rfl) :
    DT p X (.Compare a [op, op'] [b, c] pos) (gB (gCh go go' ga gb gc)) := by
  obtain ⟨⟨rr, h1, h2⟩, hmo⟩ := ho
  obtain ⟨⟨rr', h1', h2'⟩, hmo'⟩ := ho'
  refine ⟨ptI (pt_chain h1 h1' ha.run hb.run hc.run hm) fun σ H Q ⟨B, E, r, M, O, R, q⟩ => ?_, gB_mono (gCh_mono ha.mono hb.mono hc.mono hmo hmo')⟩
  refine ha.on R q fun d M1 v H1 O1 k1 R1 l1 i1 => ?_
  refine hb.on R1 k1 fun e M2 u H2 O2 k2 R2 l2 i2 => ?_
  refine h2 B E σ H2 r M2 O2 v u d e _ R2 (IsX.one (IsX.next rfl l2 i1)) i2.one (hmo _ _ _ _ _ (fun z M3 q3 v3 H3 O3 R3 l3 i3 => ?_) k2)
  have i3 : Is X.K (Av B M3 O3) H3 v3 z := i3
  split at q3
  · cases i3
    refine ⟨true, rfl, ?_⟩
    rw [if_pos rfl]
    refine hc.on R3 q3 fun f M4 t H4 O4 k4 R4 l4 i4 => ?_
    refine h2' B E σ H4 r M4 O4 u t e f _ R4 (IsX.one (IsX.next (w := true) (p := p) rfl (l3.weak.trans l4) i2)) i4.one (hmo' _ _ _ _ _ (fun z' M5 q5 v5 H5 O5 R5 l5 i5 => ?_) k4)
    have i5 : Is X.K (Av B M5 O5) H5 v5 z' := i5
    cases z' with
    | bl b =>
      cases i5
      exact ⟨b, rfl, q5 H5 O5 R5 ((((l1.trans l2).trans l3.weak).trans l4).trans l5.weak)⟩
    | _ => exact q5.elim
  · cases i3
    refine ⟨false, rfl, ?_⟩
    rw [if_neg Bool.false_ne_true]
    exact ⟨false, rfl, q3 H3 O3 R3 ((l1.trans l2).trans l3.weak)⟩
  · exact q3.elim

/-! ### truth of any value -/
def gTru (ga : GE) : GT := fun r M Q => ga r M fun d M1 => match d with
  | .non => Q false M1
  | .bl b => Q b M1
  | .int i => Q (i != 0) M1
  | .str x => x.length ≤ sizeLine ∧ Q ((x.length : Int) != 0) M1
  | .lst xs => Q (!xs.isEmpty) M1
  | .tup xs => Q (!xs.isEmpty) M1
  | .dic xs => Q (!xs.isEmpty) M1
  | _ => False
theorem IsL.empty {K : PySem.W.Frag} {A : Addr → Prop} {vs : List V} {ds : List D} (l : IsL K A H vs ds) : vs.isEmpty = ds.isEmpty := by
  cases l <;> rfl
theorem IsK.empty {K : PySem.W.Frag} {A : Addr → Prop} {vs : List (Key × V)} {ds : List (Key × D)} (l : IsK K A H vs ds) : vs.isEmpty = ds.isEmpty := by
  cases l <;> rfl
/-- truth of any value, a dict that is never written again too -/
theorem tru_okD : TruR X (fun x H Q => ∃ k, (TruV X.K x H k ∨ ∃ p kvs, x = V.ref p ∧ Rd H p (.dK kvs) ∧ k = !kvs.isEmpty) ∧ Q k H) := by
  intro pins s σ H x v Q I rx h
  obtain ⟨k, e | ⟨p, kvs, rfl, e, rfl⟩, q⟩ := h
  · exact tru_ok pins s σ H x v Q I rx ⟨k, e, q⟩
  · cases rx
    exact d_truth I e fun s' I' => ⟨H, I', q⟩
theorem pt_truthD {ta : TE} (ha : PE X a ta) (he : ∀ whole, isTrue a X.env whole = (do let v ← whole; standAt a.pos; holding [v] (truthy v))) :
    PT X a (fun σ H Q => ta σ H fun x H' => ∃ k, (TruV X.K x H' k ∨ ∃ p kvs, x = V.ref p ∧ Rd H' p (.dK kvs) ∧ k = !kvs.isEmpty) ∧ Q k H') := by
  refine ⟨fun pins s σ H Q I h => ?_⟩
  exact isTrue_plain (thn (ha.run pins s σ H _ I h) fun v s1 ⟨x, H1, I1, r1, q1⟩ => tru_okD pins s1 σ H1 x v Q I1 r1 q1) (he _)
theorem dt_tru (ha : DE w p X a ga) (he : ∀ whole, isTrue a X.env whole = (do let v ← whole; standAt a.pos; holding [v] (truthy v)) := by intro _; rfl) : DT p X a (gTru ga) := by
  refine ⟨ptI (pt_truthD ha.run he) fun σ H Q ⟨B, E, r, M, O, R, q⟩ => ?_, fun r M Q Q' h q => ha.mono r M _ _ (fun d M1 q1 => ?_) q⟩
  · refine ha.on R q fun d M1 v H1 O1 k1 R1 l1 i1 => ?_
    have j := i1.one
    split at k1
    · rw [is1_non j]; exact ⟨_, .inl rfl, k1 H1 O1 R1 l1⟩
    · rw [is1_bl j]; exact ⟨_, .inl rfl, k1 H1 O1 R1 l1⟩
    · rw [is1_int j]; exact ⟨_, .inl rfl, k1 H1 O1 R1 l1⟩
    · rw [is1_str j]; exact ⟨_, .inl ⟨k1.1, rfl⟩, k1.2 H1 O1 R1 l1⟩
    · obtain ⟨a, vs, rfl, h1, l1'⟩ := j
      exact ⟨_, .inl (.inl ⟨vs, SqL.of h1, by rw [l1'.empty]⟩), k1 H1 O1 R1 l1⟩
    · obtain ⟨a, vs, rfl, h1, l1'⟩ := j
      exact ⟨_, .inl (.inr (.inl ⟨vs, h1, by rw [l1'.empty]⟩)), k1 H1 O1 R1 l1⟩
    · obtain ⟨a, vs, rfl, h1, l1'⟩ := j
      exact ⟨_, .inr ⟨_, vs, rfl, h1, by rw [l1'.empty]⟩, k1 H1 O1 R1 l1⟩
    · exact k1.elim
  · split at q1
    · exact h _ _ q1
    · exact h _ _ q1
    · exact h _ _ q1
    · exact ⟨q1.1, h _ _ q1.2⟩
    · exact h _ _ q1
    · exact h _ _ q1
    · exact h _ _ q1
    · exact q1.elim
end

/-! ### statements -/
structure DEnds where
  nx : Fr → Mem → Prop
  rt : D → Mem → Prop
  bk : Fr → Mem → Prop := fun _ _ => False
  ct : Fr → Mem → Prop := fun _ _ => False
abbrev GS := DEnds → Fr → Mem → Prop
def LS (X : Cx) (B : Addr → Prop) (E : En) (D : Ends) : DEnds where
  nx := fun r' M' => ∀ σ' H' O', Rep X B E σ' H' r' M' O' → D.nx σ' H'
  rt := fun d M' => ∀ v H' O', MemOk X.K B H' M' O' → Step E.U E.H (Mut M' O') H' → Is X.K (Av B M' O') H' v d → D.rt v H'
  bk := fun r' M' => ∀ σ' H' O', Rep X B E σ' H' r' M' O' → D.bk σ' H'
  ct := fun r' M' => ∀ σ' H' O', Rep X B E σ' H' r' M' O' → D.ct σ' H'
/-- less is wanted -/
structure DEnds.Le (D D' : DEnds) : Prop where
  nx : ∀ r M, D.nx r M → D'.nx r M
  rt : ∀ d M, D.rt d M → D'.rt d M
  bk : ∀ r M, D.bk r M → D'.bk r M
  ct : ∀ r M, D.ct r M → D'.ct r M
def MonoS (g : GS) : Prop := ∀ D D' r M, DEnds.Le D D' → g D r M → g D' r M
structure DS (X : Cx) (st : Stmt) (g : GS) : Prop where
  run : PS X st (fun D σ H => ∃ B E r M O, Rep X B E σ H r M O ∧ g (LS X B E D) r M)
  mono : MonoS g
structure DSs (X : Cx) (st : List Stmt) (g : GS) : Prop where
  run : PSs X st (fun D σ H => ∃ B E r M O, Rep X B E σ H r M O ∧ g (LS X B E D) r M)
  mono : MonoS g
theorem psI {X : Cx} {e : Stmt} {t t' : TS} (h : PS X e t) (i : ∀ D σ H, t' D σ H → t D σ H) : PS X e t' := ⟨fun pins s σ H D I q => h.run pins s σ H D I (i D σ H q)⟩
theorem pssI {X : Cx} {e : List Stmt} {t t' : TS} (h : PSs X e t) (i : ∀ D σ H, t' D σ H → t D σ H) : PSs X e t' := ⟨fun pins s σ H D I q => h.run pins s σ H D I (i D σ H q)⟩
section
variable {X : Cx} {st : Stmt} {rest : List Stmt} {g g' : GS} {e : Expr} {ge : GE} {w p : Bool} {pos : Pos} {B : Addr → Prop} {E : En} {σ : L2.St} {H : Hp} {r : Fr} {M : Mem} {O : Own}
def gNext : GS := fun D r M => D.nx r M
def gSeq (g g' : GS) : GS := fun D r M => g { D with nx := g' D } r M
theorem dss_nil : DSs X [] gNext := ⟨pssI pss_nil fun D σ H ⟨B, E, r, M, O, R, q⟩ => q σ H O R, fun D D' r M l q => l.nx _ _ q⟩
theorem dss_cons (h1 : DS X st g) (h2 : DSs X rest g') : DSs X (st :: rest) (gSeq g g') := by
  refine ⟨pssI (pss_cons h1.run h2.run) fun D σ H ⟨B, E, r, M, O, R, q⟩ => ⟨B, E, r, M, O, R, h1.mono { LS X B E D with nx := g' (LS X B E D) } _ r M ⟨fun r' M' q' σ' H' O' R' => ⟨B, E, r', M', O', R', q'⟩, fun _ _ q => q, fun _ _ q => q, fun _ _ q => q⟩ q⟩, fun D D' r M l q => ?_⟩
  exact h1.mono { D with nx := g' D } _ r M ⟨fun r' M' q' => h2.mono _ _ _ _ l q', l.rt, l.bk, l.ct⟩ q
theorem dss_one (h1 : DS X st g) : DSs X [st] g := ⟨pss_one h1.run, h1.mono⟩
def gBreak : GS := fun D r M => D.bk r M
def gCont : GS := fun D r M => D.ct r M
theorem ds_pass : DS X (.Pass pos) gNext := ⟨psI ps_pass fun D σ H ⟨B, E, r, M, O, R, q⟩ => q σ H O R, fun D D' r M l q => l.nx _ _ q⟩
theorem ds_break : DS X (.Break pos) gBreak := ⟨psI ps_break fun D σ H ⟨B, E, r, M, O, R, q⟩ => q σ H O R, fun D D' r M l q => l.bk _ _ q⟩
theorem ds_continue : DS X (.Continue pos) gCont := ⟨psI ps_continue fun D σ H ⟨B, E, r, M, O, R, q⟩ => q σ H O R, fun D D' r M l q => l.ct _ _ q⟩
def gDrop (ge : GE) : GS := fun D r M => ge r M fun _ M1 => D.nx r M1
theorem ds_expr (he : DE w p X e ge) (hs : swapsWith e none pos.line X.env = pure false := by rfl) : DS X (.Expr e pos) (gDrop ge) := by
  refine ⟨psI (ps_expr he.run hs) fun D σ H ⟨B, E, r, M, O, R, q⟩ => ?_, fun D D' r M l q => he.mono _ _ _ _ (fun d M1 q1 => l.nx _ _ q1) q⟩
  exact he.on R q fun d M1 v H1 O1 k1 R1 l1 i1 => k1 σ H1 O1 R1
def gRet (ge : GE) : GS := fun D r M => ge r M D.rt
theorem ds_ret (he : DE true p X e ge) : DS X (.Return (some e) pos) (gRet ge) := by
  refine ⟨psI (ps_ret he.run) fun D σ H ⟨B, E, r, M, O, R, q⟩ => ?_, fun D D' r M l q => he.mono _ _ _ _ (fun d M1 q1 => l.rt _ _ q1) q⟩
  exact he.on R q fun d M1 v H1 O1 k1 R1 l1 i1 => k1 v H1 O1 R1.m R1.ent i1
def gRetN : GS := fun D _ M => D.rt .non M
theorem ds_retN : DS X (.Return none pos) gRetN :=
  ⟨psI ps_retN fun D σ H ⟨B, E, r, M, O, R, q⟩ => q _ H O R.m R.ent .non, fun D D' r M l q => l.rt _ _ q⟩
def gIfS (c : GT) (g g' : GS) : GS := fun D r M => c r M fun b M1 => if b = true then g D r M1 else g' D r M1
theorem ds_if {c : Expr} {a b : List Stmt} {gc : GT} (hc : DT p X c gc) (ha : DSs X a g) (hb : DSs X b g') : DS X (.If c a b pos) (gIfS gc g g') := by
  refine ⟨psI (ps_if hc.run ha.run hb.run) fun D σ H ⟨B, E, r, M, O, R, q⟩ => ?_, fun D D' r M l q => hc.mono _ _ _ _ (fun b M1 q1 => ?_) q⟩
  · refine hc.on R q fun b M1 H1 O1 k1 R1 l1 => ?_
    cases b with
    | true =>
      rw [if_pos rfl] at k1 ⊢
      exact ⟨B, E, r, M1, O1, R1, k1⟩
    | false =>
      rw [if_neg Bool.false_ne_true] at k1 ⊢
      exact ⟨B, E, r, M1, O1, R1, k1⟩
  · cases b with
    | true =>
      rw [if_pos rfl] at q1 ⊢
      exact ha.mono _ _ _ _ l q1
    | false =>
      rw [if_neg Bool.false_ne_true] at q1 ⊢
      exact hb.mono _ _ _ _ l q1
def gNever : GS := fun _ _ _ => False
theorem ds_never : DS X st gNever := ⟨psI ps_never fun D σ H ⟨B, E, r, M, O, R, q⟩ => q, fun D D' r M l q => q⟩
theorem dss_never : DSs X rest gNever := ⟨pssI pss_never fun D σ H ⟨B, E, r, M, O, R, q⟩ => q, fun D D' r M l q => q⟩

/-! ### stores -/
def Fr.set (r : Fr) (i : Nat) (s : Sl) : Fr := { r with sl := r.sl.set i s }
theorem SlOk.nm {i j : Nat} {x : Option V} {s : Sl} (h : SlOk X.K B H M O i x s) : SlOk X.K B H M O i x s := h
theorem Rep.setv (R : Rep X B E σ H r M O) {v : V} {d : D} (i : Nat) (h : Is X.K (Av B M O) H v d) : Rep X B E (σ.set i (some v)) H (r.set i (.v d)) M O where
  m := R.m
  len := by
    show (σ.set i (some v)).length = (r.sl.set i (.v d)).length
    rw [List.length_set, List.length_set]; exact R.len
  sl := fun j s e => by
    have e : (r.sl.set i (.v d))[j]? = some s := e
    by_cases hj : i = j
    · subst hj
      have hi : i < r.sl.length := by
        obtain ⟨h1, _⟩ := List.getElem?_eq_some_iff.mp e
        simpa using h1
      rw [List.getElem?_set_self hi] at e
      cases e
      rw [List.getElem?_set_self (by rw [R.len]; exact hi)]
      exact ⟨v, rfl, h⟩
    · rw [List.getElem?_set_ne hj] at e
      rw [List.getElem?_set_ne hj]
      exact R.sl j s e
  ent := R.ent
  sub := R.sub
  exc := R.exc
  lk := R.lk
  xe := R.xe
def gSet (i : Nat) (ge : GE) : GS := fun D r M => ge r M fun d M1 => D.nx (r.set i (.v d)) M1
theorem ds_set (i : Nat) {x : Str} {pos' : Pos} (hN : X.N.Nodup) (he : DE true p X e ge) (hi : X.N[i]? = some x := by rfl) (hx : Loc X.env.scope x := by first | exact Or.inl rfl | exact Or.inr rfl) (hs : swapsWith e (some (.Name x pos')) pos.line X.env = pure false := by rfl)
    (hf : X.fn x = true ∨ X.env.scope.names.lookup x = some .local := by first | exact .inl rfl | exact .inr rfl | assumption) : DS X (.Assign [.Name x pos'] e pos) (gSet i ge) := by
  refine ⟨psI (ps_set hN hi hx he.run hs hf) fun D σ H ⟨B, E, r, M, O, R, q⟩ => ?_, fun D D' r M l q => he.mono _ _ _ _ (fun d M1 q1 => l.nx _ _ q1) q⟩
  exact he.on R q fun d M1 v H1 O1 k1 R1 l1 i1 => k1 _ H1 O1 (R1.setv i i1)
end
end DL

set_option Elab.async false
set_option linter.all false
set_option maxRecDepth 100000
/-! DL7: own lists, targets, loops, comprehensions. -/
namespace DL
open PySem PySem.Spec PyProof.Rows L2

section
variable {X : Cx} {K : PySem.W.Frag} {B B' : Addr → Prop} {E : En} {σ : L2.St} {H H' : Hp} {r : Fr} {M : Mem} {O O' : Own} {p w : Bool} {a : Addr}
/-! ### a new address: nobody's, a slot's, let go -/
/-- the same heap, with other words for what may change -/
theorem step_id {A A' : Addr → Prop} (h : ∀ a, H a ≠ none → ¬ A a → ¬ A' a) : Step A H A' H := fun a o e n => ⟨e, h a (fun z => by rw [z] at e; cases e) n⟩
/-- what stands at A, H stands at A', H' -/
theorem OOk.stepS {A A' : Addr → Prop} (s : Step A H A' H') {l : Addr} (hl : ∀ o, H l = some o → H' l = some o) : ∀ {m : OM}, OOk K A H l m → OOk K A' H' l m
  | .lst _, ⟨vs, e, h⟩ => ⟨vs, hl _ e, h.step s⟩
  | .dic _, ⟨vs, e, h⟩ => ⟨vs, hl _ e, h.step s⟩
theorem FlsOk.stepS {A A' : Addr → Prop} (s : Step A H A' H') (ho : ∀ l f, O l = some (.fld a f) → O' l = some (.fld a f) ∧ ∀ o, H l = some o → H' l = some o) : ∀ {vs : List (Str × V)} {fs : List (Str × Fl)}, FlsOk K A H O a vs fs → FlsOk K A' H' O' a vs fs
  | _, _, .nil => .nil
  | _, _, .v i t => .v (i.step s) (FlsOk.stepS s ho t)
  | _, _, .o e i t => .o (ho _ _ e).1 (i.stepS s (ho _ _ e).2) (FlsOk.stepS s ho t)
theorem MOk.stepS {A A' : Addr → Prop} (s : Step A H A' H') (ha : ∀ o, H a = some o → H' a = some o) (ho : ∀ l f, O l = some (.fld a f) → O' l = some (.fld a f) ∧ ∀ o, H l = some o → H' l = some o) : ∀ {m : MO}, MOk K A H O a m → MOk K A' H' O' a m
  | .om m, x => OOk.stepS s ha x
  | .ins _ _, ⟨dx, vs, e, x⟩ => ⟨dx, vs, ha _ e, x.stepS s ho⟩
  | .st, ⟨kds, q, x⟩ => ⟨kds, q, OOk.stepS s ha x⟩
  | .ho _, e => ha _ e
theorem SlU.stepS {i : Nat} {x : Option V} {A A' U U' : Addr → Prop} (s : Step A H A' H') (s2 : Step U H U' H') : ∀ {sl : Sl}, (∀ l, O l = some (.slot i) → O' l = some (.slot i) ∧ ∀ o, H l = some o → H' l = some o) → SlU K A U O H i x sl → SlU K A' U' O' H' i x sl
  | .n, _, _ => trivial
  | .v d, _, ⟨v, e, q⟩ => ⟨v, e, q.step s⟩
  | .o m, ho, ⟨l, e, o, q⟩ => ⟨l, e, (ho l o).1, q.stepS s (ho l o).2⟩
  | .b k ds, _, ⟨l, vs, e, q, t⟩ => ⟨l, vs, e, q.step s2, t.step s⟩
  | .s ns, _, ⟨l, e, q⟩ => ⟨l, e, q.step s2⟩
def Bp (B : Addr → Prop) (a : Addr) : Addr → Prop := fun b => B b ∨ b = a
theorem av_bp : Av (Bp B a) M O = fun b => Av B M O b ∨ b = a := by
  funext b
  unfold Av Bp
  apply propext
  constructor
  · rintro ((h | h) | h)
    · exact .inl (.inl h)
    · exact .inr h
    · exact .inl (.inr h)
  · rintro ((h | h) | h)
    · exact .inl (.inl h)
    · exact .inr h
    · exact .inl (.inr h)
def Up (U : Addr → Prop) (a : Addr) : Addr → Prop := fun b => U b ∨ b = a
theorem av_up : Av (Bp B a) M O = Up (Av B M O) a := av_bp
theorem step_up {A A' : Addr → Prop} (s : Step A H A' H') : Step (Up A a) H (Up A' a) H' := fun b o e n =>
  have h := s b o e fun z => n (.inl z)
  ⟨h.1, fun z => z.elim h.2 fun z => n (.inr z)⟩
theorem step_dn {A : Addr → Prop} : Step (Up A a) H A H := step_id fun b _ n z => n (.inl z)
/-- a new object at a: no one's yet -/
structure New (X : Cx) (B : Addr → Prop) (E : En) (σ : L2.St) (H : Hp) (r : Fr) (M : Mem) (O : Own) (a : Addr) : Prop where
  m : MemOk X.K (Bp B a) H M O
  len : σ.length = r.sl.length
  sl : ∀ i s, r.sl[i]? = some s → SlU X.K (Up (Av B M O) a) (Up (Mut M O) a) O H i ((σ[i]?).getD none) s
  ent : Step E.U E.H (Up (Mut M O) a) H
  sub : ∀ b, E.B b → B b
  exc : ∀ C M' H' O', MemOk X.K E.B H' M' O' → Step E.U E.H (Mut M' O') H' → E.X C M' → E.W C H'
  lk : Takes X (fun cls d _ H => xk E.W cls d H)
  xe : r.ex = E.X
  nav : ¬ Av B M O a
/-- a new object that nobody stands on -/
theorem New.of (R : Rep X B E σ H r M O) {o : HO} (n : H a = none) : New X B E σ (upd H a o) r M O a := by
  have g : ∀ {A : Addr → Prop}, Step A H (Up A a) (upd H a o) := fun {A} b u e nb => by
    have ne := ne_of_none e n
    exact ⟨by rw [upd_ne ne]; exact e, fun z => z.elim nb ne⟩
  have k : ∀ {b : Addr} (u : HO), H b = some u → upd H a o b = some u := fun u e => by rw [upd_ne (ne_of_none e n)]; exact e
  have na := R.m.fresh n
  refine ⟨⟨fun b mo e => ?_, fun b w e => ?_, fun b z => ?_⟩, R.len, fun i sl e => (R.sl i sl e).stepS g g fun l q => ⟨q, k⟩, R.ent.trans g, R.sub, R.exc, R.lk, R.xe, na⟩
  · obtain ⟨h1, h2, h3⟩ := R.m.mem b mo e
    refine ⟨fun z => z.elim h1 fun z => ?_, h2, ?_⟩
    · subst z
      exact na (.inr (.inl (by rw [e]; simp)))
    · rw [av_up]
      exact h3.stepS g k fun l f q => ⟨q, k⟩
  · obtain ⟨h1, h2⟩ := R.m.own b w e
    refine ⟨fun z => z.elim h1 fun z => ?_, fun z => h2 (Same.free (same_upd n) z)⟩
    subst z
    exact na (.inr (.inr (by rw [e]; simp)))
  · rcases z with z | z
    · exact fun q => R.m.btr b z (Same.free (same_upd n) q)
    · subst z
      rw [upd_same]
      exact fun q => nomatch q
/-- in the meantime: as if it were a caller's -/
theorem New.rep (N : New X B E σ H r M O a) : Rep X (Bp B a) E σ H r M O :=
  ⟨N.m, N.len, fun i sl e => by
    have q := N.sl i sl e
    rw [← av_up] at q
    exact q.stepS (Step.refl _ _) step_dn fun l q => ⟨q, fun _ e => e⟩, N.ent.trans step_dn, fun b z => .inl (N.sub b z), N.exc, N.lk, N.xe⟩
/-- behind an expression that was reckoned in the meantime -/
theorem New.next (N : New X B E σ H r M O a) {M' : Mem} {l : Rl p M O H M' O' H'} (R : Rep X (Bp B a) E σ H' r M' O') (ha : H a ≠ none) : New X B E σ H' r M' O' a := by
  have nav : ¬ Av B M' O' a := fun z => by
    rcases z with z | z
    · exact N.nav (.inl z)
    · cases e : H a with
      | none => exact ha e
      | some o => exact (l.2 a o e fun q => N.nav (.inr q)).2 z
  have sA : Step (Up (Av B M O) a) H (Up (Av B M' O') a) H' := step_up l.avs
  have sU : Step (Up (Mut M O) a) H (Up (Mut M' O') a) H' := step_up l.2
  refine ⟨R.m, R.len, fun i sl e => ?_, N.ent.trans sU, N.sub, N.exc, N.lk, N.xe, nav⟩
  have q := N.sl i sl e
  have q' : SlU X.K (Av (Bp B a) M' O') (Mut M' O') O' H' i ((σ[i]?).getD none) sl := R.sl i sl e
  rw [av_up] at q'
  cases sl with
  | n => trivial
  | v d => exact q'
  | o m => exact q'
  | b k ds =>
    obtain ⟨a, vs, e1, e2, e3⟩ := q
    exact ⟨a, vs, e1, e2.step sU, e3.step sA⟩
  | s ns =>
    obtain ⟨a, e1, e2⟩ := q
    exact ⟨a, e1, e2.step sU⟩
/-- a is no one's -/
theorem New.any (N : New X B E σ H r M O a) : Rep X B E σ H r M O := by
  have s : Step (Up (Av B M O) a) H (Av B M O) H := step_dn
  refine ⟨⟨fun b mo e => ?_, fun b w e => ?_, fun b z => N.m.btr b (.inl z)⟩, N.len, fun i sl e => (N.sl i sl e).stepS s step_dn fun l q => ⟨q, fun _ e => e⟩, N.ent.trans step_dn, N.sub, N.exc, N.lk, N.xe⟩
  · obtain ⟨h1, h2, h3⟩ := N.m.mem b mo e
    rw [av_up] at h3
    exact ⟨fun z => h1 (.inl z), h2, h3.stepS s (fun _ e => e) fun l f q => ⟨q, fun _ e => e⟩⟩
  · obtain ⟨h1, h2⟩ := N.m.own b w e
    exact ⟨fun z => h1 (.inl z), h2⟩
def OM.d : OM → D
  | .lst ds => .lst ds
  | .dic ds => .dic ds
/-- .. and it is data -/
theorem New.is (N : New X B E σ H r M O a) {ds : List D} : OOk X.K (Up (Av B M O) a) H a (.lst ds) → Is X.K (Av B M O) H (.ref a) (.lst ds)
  | ⟨vs, e, l⟩ => .lst ⟨N.nav, e⟩ (l.step step_dn)
/-- a is the i-th slot's own -/
def osl (O : Own) (a : Addr) (i : Nat) : Own := fun b => if b = a then some (.slot i) else O b
theorem osl_same {i : Nat} : osl O a i a = some (.slot i) := by unfold osl; rw [if_pos rfl]
theorem osl_ne {i : Nat} {b : Addr} (h : b ≠ a) : osl O a i b = O b := by unfold osl; rw [if_neg h]
theorem mut_osl {i : Nat} : Mut M (osl O a i) = Up (Mut M O) a := by
  funext b
  apply propext
  unfold Mut osl Up
  by_cases h : b = a
  · simp [h, Mut]
  · simp [h, Mut]
theorem av_osl {i : Nat} : Av B M (osl O a i) = Up (Av B M O) a := by
  funext b
  apply propext
  unfold Av
  rw [mut_osl]
  show (B b ∨ Mut M O b ∨ b = a) ↔ ((B b ∨ Mut M O b) ∨ b = a)
  constructor
  · rintro (h | h | h)
    · exact .inl (.inl h)
    · exact .inl (.inr h)
    · exact .inr h
  · rintro ((h | h) | h)
    · exact .inl h
    · exact .inr (.inl h)
    · exact .inr (.inr h)
theorem OOk.there' {A : Addr → Prop} {m : OM} (h : OOk K A H a m) : H a ≠ none := by
  cases m with
  | lst ds => obtain ⟨vs, e, _⟩ := h; rw [e]; exact fun z => nomatch z
  | dic ds => obtain ⟨vs, e, _⟩ := h; rw [e]; exact fun z => nomatch z
theorem New.toSlot (N : New X B E σ H r M O a) (i : Nat) {m : OM} (hm : OOk X.K (Up (Av B M O) a) H a m) : Rep X B E (σ.set i (some (.ref a))) H (r.set i (.o m)) M (osl O a i) := by
  have nO : O a = none := by
    cases e : O a with
    | none => rfl
    | some w => exact (N.nav (.inr (.inr (by rw [e]; simp)))).elim
  have nM : M a = none := by
    cases e : M a with
    | none => rfl
    | some w => exact (N.nav (.inr (.inl (by rw [e]; simp)))).elim
  have hob : ∀ {b : Addr} {w : Ow}, O b = some w → osl O a i b = some w := fun {b w} e => by
    rw [osl_ne (fun z => by subst z; rw [nO] at e; cases e)]; exact e
  refine ⟨⟨fun b mo e => ?_, fun b w e => ?_, fun b z => N.m.btr b (.inl z)⟩, ?_, fun j sl e => ?_, ?_, N.sub, N.exc, N.lk, N.xe⟩
  · obtain ⟨h1, h2, h3⟩ := N.m.mem b mo e
    have nb : b ≠ a := fun z => by subst z; rw [nM] at e; cases e
    rw [av_up] at h3
    rw [av_osl, osl_ne nb]
    exact ⟨fun z => h1 (.inl z), h2, h3.stepS (Step.refl _ _) (fun _ e => e) fun l f q => ⟨hob q, fun _ e => e⟩⟩
  · by_cases hb : b = a
    · subst hb
      exact ⟨fun z => N.nav (.inl z), hm.there'⟩
    · rw [osl_ne hb] at e
      obtain ⟨h1, h2⟩ := N.m.own b w e
      exact ⟨fun z => h1 (.inl z), h2⟩
  · show (σ.set i _).length = (r.sl.set i _).length
    rw [List.length_set, List.length_set]; exact N.len
  · have e : (r.sl.set i (.o m))[j]? = some sl := e
    show SlU X.K (Av B M (osl O a i)) (Mut M (osl O a i)) (osl O a i) H j _ sl
    rw [av_osl, mut_osl]
    by_cases hj : i = j
    · subst hj
      have hi : i < r.sl.length := by
        obtain ⟨h1, _⟩ := List.getElem?_eq_some_iff.mp e
        simpa using h1
      rw [List.getElem?_set_self hi] at e
      cases e
      rw [List.getElem?_set_self (by rw [N.len]; exact hi)]
      exact ⟨a, rfl, osl_same, hm⟩
    · rw [List.getElem?_set_ne hj] at e
      rw [List.getElem?_set_ne hj]
      exact (N.sl j sl e).stepS (Step.refl _ _) (Step.refl _ _) fun l q => ⟨hob q, fun _ e => e⟩
  · rw [mut_osl]; exact N.ent
end
end DL

set_option Elab.async false
set_option linter.all false
set_option maxRecDepth 100000
/-! DL8: own lists, targets, loops. -/
namespace DL
open PySem PySem.Spec PyProof.Rows L2

/-! ### what is made here -/
abbrev GF := Fr → Mem → (OM → Mem → Prop) → Prop
structure DF (p : Bool) (X : Cx) (e : Expr) (g : GF) : Prop where
  run : PE X e (fun σ H Q => ∃ B E r M O, Rep X B E σ H r M O ∧ g r M (fun m M' => ∀ a H' O', New X B E σ H' r M' O' a → Rl p M O H M' O' H' → OOk X.K (Up (Av B M' O') a) H' a m → Q (.ref a) H'))
  mono : ∀ r M Q Q', (∀ d M', Q d M' → Q' d M') → g r M Q → g r M Q'
section
variable {X : Cx} {w p : Bool} {e : Expr} {es : List Expr} {g ga : GE} {gf : GF} {gs : GA} {B : Addr → Prop} {E : En} {σ : L2.St} {H : Hp} {r : Fr} {M : Mem} {O : Own} {pos : Pos}
theorem DF.on (ha : DF p X e gf) (R : Rep X B E σ H r M O) {k : OM → Mem → Prop} (h : gf r M k) {Q : VK}
    (hk : ∀ m M1 a H1 O1, k m M1 → New X B E σ H1 r M1 O1 a → Rl p M O H M1 O1 H1 → OOk X.K (Up (Av B M1 O1) a) H1 a m → Q (.ref a) H1) :
    ∃ B E r M O, Rep X B E σ H r M O ∧ gf r M (fun m M' => ∀ a H' O', New X B E σ H' r M' O' a → Rl p M O H M' O' H' → OOk X.K (Up (Av B M' O') a) H' a m → Q (.ref a) H') :=
  ⟨B, E, r, M, O, R, ha.mono r M _ _ (fun d M1 h1 v H1 O1 R1 l1 i1 => hk d M1 v H1 O1 h1 R1 l1 i1) h⟩
def gFd (gf : GF) : GE := fun r M Q => gf r M fun m M1 => match m with
  | .lst ds => Q (.lst ds) M1
  | .dic _ => False
/-- as data -/
theorem DF.de (h : DF p X e gf) : DE true p X e (gFd gf) :=
  ⟨peI h.run fun σ H Q ⟨B, E, r, M, O, R, q⟩ => h.on R q fun m M1 a H1 O1 k1 N1 l1 i1 => by
    cases m with
    | lst ds => exact k1 _ H1 O1 N1.any l1 (N1.is i1)
    | dic ds => exact k1.elim, fun r M Q Q' hh q => h.mono r M _ _ (fun m M1 q1 => by
    cases m with
    | lst ds => exact hh _ _ q1
    | dic ds => exact q1) q⟩
def gFl (gs : GA) : GF := fun r M Q => gs r M fun ds M1 => Q (.lst ds) M1
theorem new_lst (R : Rep X B E σ H r M O) {vs : List V} {ds : List D} (l : IsL X.K (Av B M O) H vs ds) {a : Addr} (n : H a = none) : New X B E σ (upd H a (.lst vs)) r M O a ∧ OOk X.K (Up (Av B M O) a) (upd H a (.lst vs)) a (.lst ds) :=
  ⟨New.of R n, vs, upd_same, l.step fun b u e nb => by
    have ne := ne_of_none e n
    exact ⟨by rw [upd_ne ne]; exact e, fun z => z.elim nb ne⟩⟩
theorem df_lst {n : Nat} (hs : DAn true p X n es gs) (hn : n ≤ sizeLine := by decide) : DF p X (.List es pos) (gFl gs) := by
  refine ⟨peI (pe_lst hs.da.run) fun σ H Q ⟨B, E, r, M, O, R, q⟩ => ?_, fun r M Q Q' h q => hs.da.mono r M _ _ (fun ds M1 q1 => h _ _ q1) q⟩
  refine hs.da.on R (hs.z hn _ _ _ q) fun ds M1 vs H1 O1 k1 R1 l1 i1 => ?_
  have i2 := isXL_strong i1
  refine ⟨by rw [i2.length]; exact k1.1, fun a n => ?_⟩
  obtain ⟨N, q⟩ := new_lst R1 i2 n
  exact k1.2 a _ O1 N (l1.trans (Rl.of_same (same_upd n))) q
/-- list(x), x a list or a tuple -/
def gFlist (ga : GE) : GF := fun r M Q => ga r M fun d M1 => match d with
  | .lst xs => Q (.lst xs) M1
  | .tup xs => Q (.lst xs) M1
  | _ => False
theorem df_list {pf : Pos} (ha : DE w p X e ga) (hg : Gl X "list") (hm : X.mg "list" = none) (hst : starEach [e] X.env = (false, eval e X.env) :: starEach [] X.env := by rfl) (hpl : (backTo pos (starEach [] X.env)).any (·.1) = false := by rfl) :
    DF p X (.Call (.Name "list" pf) [e] [] pos) (gFlist ga) := by
  refine ⟨peI (pe_callTy call_list_of hg hm (by decide +kernel) (da_one ha hst).run (by decide) (by decide) hst hpl) fun σ H Q ⟨B, E, r, M, O, R, q⟩ => ?_, fun r M Q Q' h q => ha.mono r M _ _ (fun d M1 q1 => ?_) q⟩
  · have hda := da_one (w := w) ha hst
    refine hda.on R (k := fun ds M1 => match ds with
      | [.lst xs] => ∀ a H' O', New X B E σ H' r M1 O' a → Rl p M O H M1 O' H' → OOk X.K (Up (Av B M1 O') a) H' a (.lst xs) → Q (.ref a) H'
      | [.tup xs] => ∀ a H' O', New X B E σ H' r M1 O' a → Rl p M O H M1 O' H' → OOk X.K (Up (Av B M1 O') a) H' a (.lst xs) → Q (.ref a) H'
      | _ => False) (ha.mono r M _ _ (fun d M1 q1 => ?_) q) fun ds M1 vs H1 O1 k1 R1 l1 i1 => ?_
    · cases d with
      | lst xs => exact q1
      | tup xs => exact q1
      | _ => exact q1.elim
    · have i2 := isXL_weak i1
      split at k1
      · obtain ⟨v, rfl, a, vs, rfl, h1, l2⟩ := isXL1 i2
        refine ⟨a, vs, rfl, .inl (SqL.of h1), fun b n => ?_⟩
        obtain ⟨N, q⟩ := new_lst R1 l2 n
        exact k1 b _ O1 N (l1.trans (Rl.of_same (same_upd n))) q
      · obtain ⟨v, rfl, a, vs, rfl, h1, l2⟩ := isXL1 i2
        refine ⟨a, vs, rfl, .inr h1, fun b n => ?_⟩
        obtain ⟨N, q⟩ := new_lst R1 l2 n
        exact k1 b _ O1 N (l1.trans (Rl.of_same (same_upd n))) q
      · exact k1.elim
  · cases d with
    | lst xs => exact h _ _ q1
    | tup xs => exact h _ _ q1
    | _ => exact q1.elim

/-! ### own slots -/
def gOwn (i : Nat) (gf : GF) : GS := fun D r M => gf r M fun m M1 => D.nx (r.set i (.o m)) M1
theorem ds_own (i : Nat) {x : Str} {pos' : Pos} (hN : X.N.Nodup) (he : DF p X e gf) (hi : X.N[i]? = some x := by rfl) (hx : Loc X.env.scope x := by first | exact Or.inl rfl | exact Or.inr rfl) (hs : swapsWith e (some (.Name x pos')) pos.line X.env = pure false := by rfl)
    (hf : X.fn x = true ∨ X.env.scope.names.lookup x = some .local := by first | exact .inl rfl | exact .inr rfl | assumption) : DS X (.Assign [.Name x pos'] e pos) (gOwn i gf) := by
  refine ⟨psI (ps_set hN hi hx he.run hs hf) fun D σ H ⟨B, E, r, M, O, R, q⟩ => ?_, fun D D' r M l q => he.mono _ _ _ _ (fun d M1 q1 => l.nx _ _ q1) q⟩
  exact he.on R q (Q := fun x H1 => D.nx (σ.set i (some x)) H1) fun m M1 a H1 O1 k1 N1 l1 i1 => k1 _ H1 _ (N1.toSlot i i1)
/-- an own list is written: it alone changes -/
theorem Rep.mutO (R : Rep X B E σ H r M O) {i : Nat} {a : Addr} {m m' : OM} {u : HO} (hr : r.sl[i]? = some (.o m)) (hs : σ[i]? = some (some (.ref a))) (ha : O a = some (.slot i)) (hu : OOk X.K (Av B M O) (upd H a u) a m') :
    Rep X B E σ (upd H a u) (r.set i (.o m')) M O := by
  have mA : Mut M O a := .inr (by rw [ha]; simp)
  have keep : ∀ {b : Addr} {o : HO}, b ≠ a → H b = some o → upd H a u b = some o := fun {b o} h e => by rw [upd_ne h]; exact e
  have s : ∀ {A : Addr → Prop}, A a → Step A H A (upd H a u) := fun hA b o e nb => ⟨keep (fun z => nb (by rw [z]; exact hA)) e, nb⟩
  refine ⟨⟨fun b mo e => ?_, fun b w e => ?_, fun b z => ?_⟩, ?_, fun j sl e => ?_, R.ent.trans (s mA), R.sub, R.exc, R.lk, R.xe⟩
  · obtain ⟨h1, h2, h3⟩ := R.m.mem b mo e
    have nb : b ≠ a := fun z => by subst z; rw [ha] at h2; cases h2
    refine ⟨h1, h2, h3.stepS (s (.inr mA)) (fun o e => keep nb e) fun l f q => ⟨q, fun o e => keep (fun z => ?_) e⟩⟩
    subst z
    rw [ha] at q
    cases q
  · obtain ⟨h1, h2⟩ := R.m.own b w e
    refine ⟨h1, fun z => h2 ?_⟩
    by_cases hb : b = a
    · subst hb; rw [upd_same] at z; cases z
    · rw [upd_ne hb] at z; exact z
  · have q := R.m.btr b z
    by_cases hb : b = a
    · subst hb; rw [upd_same]; exact fun z => nomatch z
    · rw [upd_ne hb]; exact q
  · show σ.length = (r.sl.set i _).length
    rw [List.length_set]; exact R.len
  · have e : (r.sl.set i (.o m'))[j]? = some sl := e
    by_cases hj : i = j
    · subst hj
      have hi : i < r.sl.length := (List.getElem?_eq_some_iff.mp hr).1
      rw [List.getElem?_set_self hi] at e
      cases e
      rw [hs]
      exact ⟨a, rfl, ha, hu⟩
    · rw [List.getElem?_set_ne hj] at e
      refine (R.sl j sl e).stepS (s (.inr mA)) (s mA) fun l q => ⟨q, fun o e => keep (fun z => ?_) e⟩
      subst z
      rw [ha] at q
      cases q
      exact hj rfl
def gApp (i : Nat) (ge : GE) : GS := fun D r M => match r.sl[i]? with
  | some (.o (.lst ds)) => ge r M fun d M1 => ds.length < sizeLine ∧ D.nx (r.set i (.o (.lst (ds ++ [d])))) M1
  | _ => False
theorem ds_app (i : Nat) {x : Str} {px apos cpos : Pos} (he : DE true p X e ge) (hN : X.N[i]? = some x := by rfl) (hv : Vis X.env.scope x := by first | exact Or.inl rfl | exact Or.inr (Or.inl rfl) | exact Or.inr (Or.inr rfl)) (hd : (x == ("__debug__" : Str)) = false := by decide)
    (hcd : (x == ("__classdict__" : Str)) = false := by decide)
    (hbase : attributeBase (.Name x px) "append" X.env (eval (.Name x px) X.env) = eval (.Name x px) X.env := by rfl)
    (hfew : ((backTo cpos (starEach [e] X.env)).all (fun x => !x.1) && (backToKw cpos (keywordEach [] X.env)).all (fun x => x.1.isSome)
      && decide ([e].length + ([] : List Keyword).length + (if ([] : List Keyword).isEmpty then 0 else 1) < 30)) = true := by rfl)
    (hline : (apos.endLine == cpos.line) = true := by rfl) (hs : starEach [e] X.env = (false, eval e X.env) :: starEach [] X.env := by rfl) (hplain : (backTo cpos (starEach [] X.env)).any (·.1) = false := by rfl)
    (hsw : swapsWith (.Call (.Attribute (.Name x px) "append" apos) [e] [] cpos) none pos.line X.env = pure false := by rfl) :
    DS X (.Expr (.Call (.Attribute (.Name x px) "append" apos) [e] [] cpos) pos) (gApp i ge) := by
  have he' := da_one (w := true) he hs
  refine ⟨psI (ps_expr (pe_bm PySem.F.plainAttrs_list PySem.F.slot_list_append PySem.F.type_list_append mt_append (pe_var (pos := px) hN hv hd hcd) he'.run hbase hfew hline hs hplain) hsw) fun D σ H ⟨B, E, r, M, O, R, q⟩ => ?_, fun D D' r M l q => ?_⟩
  · unfold gApp at q
    split at q
    · rename_i ds er
      obtain ⟨x, e1, a, e2, ha, vs, e3, l3⟩ := R.slot er
      subst e2
      refine ⟨.ref a, e1, .inl ⟨rfl, vs, SqL.of e3⟩, ?_⟩
      refine he'.on R (k := fun zs M1 => ∃ d, zs = [d] ∧ ds.length < sizeLine ∧ (LS X B E D).nx (r.set i (.o (.lst (ds ++ [d])))) M1) (he.mono _ _ _ _ (fun d M1 q1 => ⟨d, rfl, q1⟩) q) fun zs M1 us H1 O1 k1 R1 l1 i1 => ?_
      obtain ⟨d, rfl, hz, k1⟩ := k1
      have i2 := isXL_strong i1
      cases i2 with
      | @cons v _ us' _ i3 t =>
        cases t
        obtain ⟨x', f1, a', f2, ha', vs', f3, l3'⟩ := R1.slot er
        rw [e1] at f1
        cases f1
        have f2 : some (V.ref a) = some (V.ref a') := f2
        cases f2
        refine ⟨a, vs', v, rfl, rfl, f3, by rw [l3'.length]; exact hz, ?_⟩
        refine k1 σ _ O1 (R1.mutO er e1 ha' ⟨vs' ++ [v], upd_same, ?_⟩)
        have s : Step (Av B M1 O1) H1 (Av B M1 O1) (upd H1 a (.lst (vs' ++ [v]))) := fun b o eb nb => ⟨by
          rw [upd_ne (fun z => nb (by rw [z]; exact .inr (.inr (by rw [ha']; simp))))]; exact eb, nb⟩
        exact (l3'.append (.cons i3 .nil)).step s
    · exact q.elim
  · unfold gApp at q ⊢
    split at q
    · exact he.mono _ _ _ _ (fun d M1 q1 => ⟨q1.1, l.nx _ _ q1.2⟩) q
    · exact q.elim
/-- from here on it is data -/
def frz (i : Nat) (r : Fr) : Fr := match r.sl[i]? with
  | some (.o m) => r.set i (.v m.d)
  | _ => r
def gFrz (i : Nat) (g : GS) : GS := fun D r M => g D (frz i r) M
def unown (O : Own) (a : Addr) : Own := fun b => if b = a then none else O b
theorem Rep.frzG (R : Rep X B E σ H r M O) {i : Nat} {m : OM} {a : Addr} {H' : Hp} (er : r.sl[i]? = some (.o m)) (e1 : σ[i]? = some (some (.ref a))) (ha : O a = some (.slot i))
    (hk : ∀ b o, b ≠ a → H b = some o → H' b = some o) (hn : H' a ≠ none) (hi : ∀ A', ¬ A' a → Step (Av B M O) H A' H' → Is X.K A' H' (.ref a) m.d) : Rep X B E σ H' (r.set i (.v m.d)) M (unown O a) := by
  have mA : Mut M O a := .inr (by rw [ha]; simp)
  have le : ∀ b, Mut M (unown O a) b → Mut M O b := fun b z => by
    rcases z with z | z
    · exact .inl z
    · unfold unown at z
      by_cases hb : b = a
      · rw [if_pos hb] at z; exact absurd rfl z
      · rw [if_neg hb] at z; exact .inr z
  have leA : ∀ b, Av B M (unown O a) b → Av B M O b := fun b z => z.elim .inl fun z => .inr (le b z)
  have s : Step (Av B M O) H (Av B M (unown O a)) H' := fun b o e n => ⟨hk b o (fun z => n (by rw [z]; exact .inr mA)) e, fun z => n (leA b z)⟩
  have sU : Step (Mut M O) H (Mut M (unown O a)) H' := fun b o e n => ⟨hk b o (fun z => n (by rw [z]; exact mA)) e, fun z => n (le b z)⟩
  have hun : ∀ {b : Addr} {w : Ow}, b ≠ a → O b = some w → unown O a b = some w := fun hb e => by unfold unown; rw [if_neg hb]; exact e
  have nB := (R.m.own a _ ha).1
  have nM : M a = none := by
    cases e : M a with
    | none => rfl
    | some mo => have := (R.m.mem a mo e).2.1; rw [ha] at this; cases this
  have nAv : ¬ Av B M (unown O a) a := fun z => by
    rcases z with z | z | z
    · exact nB z
    · exact z nM
    · unfold unown at z; rw [if_pos rfl] at z; exact absurd rfl z
  refine ⟨⟨fun b mo e => ?_, fun b w e => ?_, fun b z => ?_⟩, ?_, fun j sl e => ?_, R.ent.trans sU, R.sub, R.exc, R.lk, R.xe⟩
  · obtain ⟨h1, h2, h3⟩ := R.m.mem b mo e
    have nb : b ≠ a := fun z => by rw [z, nM] at e; cases e
    refine ⟨h1, ?_, h3.stepS s (fun o e => hk b o nb e) fun l f q => ?_⟩
    · unfold unown
      split
      · rfl
      · exact h2
    · have nl : l ≠ a := fun z => by rw [z, ha] at q; cases q
      exact ⟨hun nl q, fun o e => hk l o nl e⟩
  · unfold unown at e
    split at e
    · cases e
    · rename_i nb
      obtain ⟨g1, g2⟩ := R.m.own b w e
      refine ⟨g1, fun z => ?_⟩
      cases eb : H b with
      | none => exact g2 eb
      | some o => rw [hk b o nb eb] at z; cases z
  · intro q
    by_cases hb : b = a
    · rw [hb] at q; exact hn q
    · cases eb : H b with
      | none => exact R.m.btr b z eb
      | some o => rw [hk b o hb eb] at q; cases q
  · show σ.length = (r.sl.set i _).length
    rw [List.length_set]; exact R.len
  · have e : (r.sl.set i (.v m.d))[j]? = some sl := e
    by_cases hj : i = j
    · subst hj
      have hi' : i < r.sl.length := (List.getElem?_eq_some_iff.mp er).1
      rw [List.getElem?_set_self hi'] at e
      cases e
      rw [e1]
      exact ⟨.ref a, rfl, hi _ nAv s⟩
    · rw [List.getElem?_set_ne hj] at e
      refine (R.sl j sl e).stepS s sU fun l q => ?_
      have nl : l ≠ a := fun z => by rw [z, ha] at q; cases q; exact hj rfl
      exact ⟨hun nl q, fun o e => hk l o nl e⟩
/-- a dict is never written again from here on -/
theorem pss_fz {rest : List Stmt} {t : TS} (h : PSs X rest t) : PSs X rest (fun D σ H => t D σ H ∨ ∃ a kvs, H a = some (.dK kvs) ∧ ∀ o, t D σ (upd H a (.frz o (.dK kvs)))) :=
  ⟨fun pins s σ H D I q => by
    rcases q with q | ⟨a, kvs, e, q⟩
    · exact h.run pins s σ H D I q
    · obtain ⟨o, I2⟩ := I.lock e (by trivial)
      exact h.run pins s σ _ D I2 (q o)⟩
theorem dss_frz (i : Nat) {rest : List Stmt} {g : GS} (h : DSs X rest g) : DSs X rest (gFrz i g) := by
  refine ⟨pssI (pss_fz h.run) fun D σ H ⟨B, E, r, M, O, R, q⟩ => ?_, fun D D' r M l q => h.mono _ _ _ _ l q⟩
  unfold gFrz DL.frz at q
  split at q
  · rename_i m er
    obtain ⟨x, e1, a, e2, ha, hm⟩ := R.slot er
    subst e2
    cases m with
    | lst ds =>
      obtain ⟨vs, h1, h2⟩ := hm
      exact .inl ⟨B, E, _, M, _, R.frzG er e1 ha (fun b o _ e => e) (by rw [h1]; simp) (fun A' nA s => .lst ⟨nA, h1⟩ (h2.step s)), q⟩
    | dic ds =>
      obtain ⟨kvs, h1, h2⟩ := hm
      exact .inr ⟨a, kvs, h1, fun o => ⟨B, E, _, M, _, R.frzG er e1 ha (fun b o' nb e => by rw [upd_ne nb]; exact e) (by rw [upd_same]; simp) (fun A' nA s => .dic ⟨nA, o, upd_same⟩ (h2.step s)), q⟩⟩
  · exact .inl ⟨B, E, r, M, O, R, q⟩
end
end DL

set_option Elab.async false
set_option linter.all false
set_option maxRecDepth 100000
/-! DL9: targets, for, while, comprehensions. -/
namespace DL
open PySem PySem.Spec PyProof.Rows L2

/-! ### targets -/
abbrev GG := D → Fr → Mem → (Fr → Mem → Prop) → Prop
abbrev GGs := List D → Fr → Mem → (Fr → Mem → Prop) → Prop
theorem pgI {X : Cx} {e : Expr} {t t' : TG} (h : PG X e t) (i : ∀ v σ H Q, t' v σ H Q → t v σ H Q) : PG X e t' := ⟨fun pins s σ H v u Q I r q => h.run pins s σ H v u Q I r (i v σ H Q q)⟩
theorem pgsI {X : Cx} {e : List Expr} {t t' : TGs} (h : PGs X e t) (i : ∀ v σ H Q, t' v σ H Q → t v σ H Q) : PGs X e t' := ⟨fun pins s σ H v u Q I r q => h.run pins s σ H v u Q I r (i v σ H Q q)⟩
def gtN (i : Nat) : GG := fun d r M Q => Q (r.set i (.v d)) M
def gtNil : GGs := fun ds r M Q => ds = [] ∧ Q r M
def gtCons (g : GG) (gs : GGs) : GGs := fun ds r M Q => match ds with
  | d :: r' => g d r M fun r1 M1 => gs r' r1 M1 Q
  | [] => False
/-- but for the slots at ws nothing is stored -/
def Out (ws : List Nat) (σ σ' : L2.St) : Prop := σ'.length = σ.length ∧ ∀ j, j ∉ ws → σ'[j]? = σ[j]?
theorem Out.trans {ws ws' : List Nat} {σ σ' σ'' : L2.St} (a : Out ws σ σ') (b : Out ws' σ' σ'') : Out (ws ++ ws') σ σ'' :=
  ⟨b.1.trans a.1, fun j h => (b.2 j fun z => h (List.mem_append_right _ z)).trans (a.2 j fun z => h (List.mem_append_left _ z))⟩
structure DGp (X : Cx) (t : Expr) (ws : List Nat) (g : GG) : Prop where
  run : PG X t (fun v σ H Q => ∃ B E r M O d, Rep X B E σ H r M O ∧ Is X.K (Av B M O) H v d ∧ g d r M fun r' M' => M' = M ∧ ∀ σ', Out ws σ σ' → Rep X B E σ' H r' M O → Q σ' H)
  mono : ∀ d r M Q Q', (∀ r' M', Q r' M' → Q' r' M') → g d r M Q → g d r M Q'
structure DGsp (X : Cx) (t : List Expr) (ws : List Nat) (g : GGs) : Prop where
  run : PGs X t (fun vs σ H Q => ∃ B E r M O ds, Rep X B E σ H r M O ∧ IsL X.K (Av B M O) H vs ds ∧ g ds r M fun r' M' => M' = M ∧ ∀ σ', Out ws σ σ' → Rep X B E σ' H r' M O → Q σ' H)
  mono : ∀ d r M Q Q', (∀ r' M', Q r' M' → Q' r' M') → g d r M Q → g d r M Q'
/-- M stays, and the slots but for those at ws -/
def SameM (ws : List Nat) (g : GG) : Prop := ∀ d r M Q, g d r M Q → g d r M fun r' M' => (M' = M ∧ ∀ j, j ∉ ws → r'.sl[j]? = r.sl[j]?) ∧ Q r' M'
def SameMs (ws : List Nat) (g : GGs) : Prop := ∀ d r M Q, g d r M Q → g d r M fun r' M' => (M' = M ∧ ∀ j, j ∉ ws → r'.sl[j]? = r.sl[j]?) ∧ Q r' M'
structure DT' (X : Cx) (t : Expr) (ws : List Nat) (g : GG) : Prop where
  p : DGp X t ws g
  s : SameM ws g
structure DTs' (X : Cx) (t : List Expr) (ws : List Nat) (g : GGs) : Prop where
  p : DGsp X t ws g
  s : SameMs ws g
section
variable {X : Cx} {w p : Bool} {e t : Expr} {es : List Expr} {g ga ge : GE} {gf : GF} {gs : GA} {gt : GG} {gts : GGs} {B : Addr → Prop} {E : En} {σ : L2.St} {H : Hp} {r : Fr} {M : Mem} {O : Own} {pos : Pos}
theorem dt_name (i : Nat) {x : Str} (hN : X.N.Nodup) (hi : X.N[i]? = some x := by rfl) (hx : Loc X.env.scope x := by first | exact Or.inl rfl | exact Or.inr rfl) (hf : X.fn x = true ∨ X.env.scope.names.lookup x = some .local := by first | exact .inl rfl | exact .inr rfl | assumption) : DT' X (.Name x pos) [i] (gtN i) :=
  ⟨⟨pgI (pg_name hN hi hx hf) fun v σ H Q ⟨B, E, r, M, O, d, R, i1, q⟩ => q.2 _ ⟨List.length_set .., fun j hj => List.getElem?_set_ne (fun z => hj (by simp [z]))⟩ (R.setv i i1), fun d r M Q Q' h q => h _ _ q⟩, fun d r M Q q => ⟨⟨rfl, fun j hj => List.getElem?_set_ne (fun z => hj (by simp [z]))⟩, q⟩⟩
theorem dts_nil : DTs' X [] [] gtNil :=
  ⟨⟨pgsI pgs_nil fun v σ H Q ⟨B, E, r, M, O, ds, R, i1, e, q⟩ => by
    subst e
    cases i1
    exact ⟨rfl, q.2 σ ⟨rfl, fun _ _ => rfl⟩ R⟩, fun d r M Q Q' h q => ⟨q.1, h _ _ q.2⟩⟩, fun d r M Q q => ⟨q.1, ⟨rfl, fun _ _ => rfl⟩, q.2⟩⟩
theorem dts_cons {ws1 ws2 : List Nat} (h1 : DT' X t ws1 gt) (h2 : DTs' X es ws2 gts) (hs : (assignEach (t :: es) X.env).map (·.2) = assign t X.env :: (assignEach es X.env).map (·.2) := by rfl) : DTs' X (t :: es) (ws1 ++ ws2) (gtCons gt gts) := by
  refine ⟨⟨pgsI (pgs_cons h1.p.run h2.p.run hs) fun vs σ H Q ⟨B, E, r, M, O, ds, R, i1, q⟩ => ?_, fun d r M Q Q' h q => ?_⟩, fun d r M Q q => ?_⟩
  · cases i1 with
    | nil => exact q.elim
    | @cons v d vs ds i t' =>
      refine ⟨v, vs, rfl, B, E, r, M, O, d, R, i, ?_⟩
      refine h1.p.mono _ _ _ _ _ (fun r1 M1 q1 => ?_) (h1.s _ _ _ _ q)
      obtain ⟨⟨e1, _⟩, q1⟩ := q1
      subst e1
      refine ⟨rfl, fun σ' o1 R' => ⟨B, E, r1, M1, O, ds, R', t', ?_⟩⟩
      exact h2.p.mono _ _ _ _ _ (fun r2 M2 q2 => ⟨q2.1, fun σ2 o2 R2 => q2.2 σ2 (o1.trans o2) R2⟩) q1
  · cases d with
    | nil => exact q.elim
    | cons d ds => exact h1.p.mono _ _ _ _ _ (fun r1 M1 q1 => h2.p.mono _ _ _ _ _ h q1) q
  · cases d with
    | nil => exact q.elim
    | cons d ds =>
      refine h1.p.mono _ _ _ _ _ (fun r1 M1 q1 => ?_) (h1.s _ _ _ _ q)
      obtain ⟨⟨e1, f1⟩, q1⟩ := q1
      subst e1
      refine h2.p.mono _ _ _ _ _ (fun r2 M2 q2 => ?_) (h2.s _ _ _ _ q1)
      exact ⟨⟨q2.1.1, fun j hj => (q2.1.2 j fun z => hj (List.mem_append_right _ z)).trans (f1 j fun z => hj (List.mem_append_left _ z))⟩, q2.2⟩
def gtTup (gts : GGs) (n : Nat) : GG := fun d r M Q => match d with
  | .tup ds => ds.length = n ∧ gts ds r M Q
  | _ => False
theorem dt_tup {k n : Nat} (hc : X.calm = true) {ws : List Nat} (h : DTs' X es ws gts) (hn : (assignEach es X.env).length = n := by rfl) (hst : (assignEach es X.env).findIdx? (·.1) = none := by rfl) : DT' X (.Tuple es k pos) ws (gtTup gts n) := by
  refine ⟨⟨pgI (pg_tup (n := n) hc h.p.run hn hst) fun v σ H Q ⟨B, E, r, M, O, d, R, i1, q⟩ => ?_, fun d r M Q Q' hh q => ?_⟩, fun d r M Q q => ?_⟩
  · unfold gtTup at q
    split at q
    · cases i1 with
      | @tup a vs _ h l => exact ⟨a, vs, rfl, h.sq, by rw [l.length]; exact q.1, B, E, r, M, O, _, R, l, q.2⟩
    · exact q.elim
  · unfold gtTup at q ⊢
    split at q
    · exact ⟨q.1, h.p.mono _ _ _ _ _ hh q.2⟩
    · exact q.elim
  · unfold gtTup at q ⊢
    split at q
    · exact ⟨q.1, h.s _ _ _ _ q.2⟩
    · exact q.elim
/-- a list unpacked -/
def gtLst (gts : GGs) (n : Nat) : GG := fun d r M Q => match d with
  | .lst ds => ds.length = n ∧ gts ds r M Q
  | _ => False
theorem dt_lst {k n : Nat} (hc : X.calm = true) {ws : List Nat} (h : DTs' X es ws gts) (hn : (assignEach es X.env).length = n := by rfl) (hst : (assignEach es X.env).findIdx? (·.1) = none := by rfl) : DT' X (.Tuple es k pos) ws (gtLst gts n) := by
  refine ⟨⟨pgI (pg_lst (n := n) hc h.p.run hn hst) fun v σ H Q ⟨B, E, r, M, O, d, R, i1, q⟩ => ?_, fun d r M Q Q' hh q => ?_⟩, fun d r M Q q => ?_⟩
  · unfold gtLst at q
    split at q
    · cases i1 with
      | @lst a vs _ h l => exact ⟨a, vs, rfl, SqL.of h.2, by rw [l.length]; exact q.1, B, E, r, M, O, _, R, l, q.2⟩
    · exact q.elim
  · unfold gtLst at q ⊢
    split at q
    · exact ⟨q.1, h.p.mono _ _ _ _ _ hh q.2⟩
    · exact q.elim
  · unfold gtLst at q ⊢
    split at q
    · exact ⟨q.1, h.s _ _ _ _ q.2⟩
    · exact q.elim
/-- target = e -/
def gAsg (ge : GE) (gt : GG) : GS := fun D r M => ge r M fun d M1 => gt d r M1 D.nx
theorem ds_asg {ws : List Nat} (he : DE true p X e ge) (hg : DT' X t ws gt) (hs : swapsWithSole [t] e pos.line X.env = pure false := by rfl) (hw : swappedStores [t] e X.env = pure none := by rfl)
    (h1 : (assignEach [t] X.env).map (·.2) = [assign t X.env] := by rfl) : DS X (.Assign [t] e pos) (gAsg ge gt) := by
  refine ⟨psI (ps_asg he.run hg.p.run hs hw h1) fun D σ H ⟨B, E, r, M, O, R, q⟩ => ?_, fun D D' r M l q => he.mono _ _ _ _ (fun d M1 q1 => hg.p.mono _ _ _ _ _ (fun r' M' q2 => l.nx _ _ q2) q1) q⟩
  refine he.on R q fun d M1 v H1 O1 k1 R1 l1 i1 => ?_
  refine ⟨B, E, r, M1, O1, d, R1, i1, ?_⟩
  refine hg.p.mono _ _ _ _ _ (fun r' M' q2 => ?_) (hg.s _ _ _ _ k1)
  obtain ⟨⟨e1, _⟩, q2⟩ := q2
  subst e1
  exact ⟨rfl, fun σ' _ R' => q2 σ' H1 O1 R'⟩
/-- x, y = a, b (names) -/
def gPar (i j : Nat) (gs : GA) : GS := fun D r M => gs r M fun ds M1 => match ds with
  | [d, e] => D.nx ((r.set i (.v d)).set j (.v e)) M1
  | _ => False
theorem ds_par (i j : Nat) {x y : Str} {a b : Expr} {px py pt : Pos} {kt k2 pt2} (hc : X.calm = true) (hN : X.N.Nodup) (ha : DA true p X [a, b] gs) (hi : X.N[i]? = some x := by rfl) (hj : X.N[j]? = some y := by rfl) (hij : i ≠ j := by decide)
    (hx : X.env.scope.names.lookup x = some .local := by rfl) (hy : X.env.scope.names.lookup y = some .local := by rfl)
    (hw : swappedStores [.Tuple [.Name x px, .Name y py] kt pt] (.Tuple [a, b] k2 pt2) X.env = pure (some [x, y]) := by rfl)
    (hs : swapsWithSole [.Tuple [.Name x px, .Name y py] kt pt] (.Tuple [a, b] k2 pt2) pos.line X.env = pure false := by rfl) :
    DS X (.Assign [.Tuple [.Name x px, .Name y py] kt pt] (.Tuple [a, b] k2 pt2) pos) (gPar i j gs) := by
  refine ⟨psI (ps_par hc hN hi hj hij hx hy ha.run hw hs) fun D σ H ⟨B, E, r, M, O, R, q⟩ => ?_, fun D D' r M l q => ha.mono _ _ _ _ (fun ds M1 q1 => ?_) q⟩
  · refine ha.on R q fun ds M1 vs H1 O1 k1 R1 l1 i1 => ?_
    have i2 := isXL_strong i1
    split at k1
    · cases i2 with
      | @cons v _ _ _ iv t =>
        cases t with
        | @cons u _ _ _ iu t =>
          cases t
          exact ⟨v, u, rfl, k1 _ H1 O1 ((R1.setv i iv).setv j iu)⟩
    · exact k1.elim
  · split at q1
    · exact l.nx _ _ q1
    · exact q1.elim
/-- x += e, x a name whose value is a number or a text -/
def gAug (i : Nat) (go : GO) (ge : GE) : GS := fun D r M => match r.sl[i]? with
  | some (.v d) => ge r M fun e M1 => go d e M1 fun z M2 => D.nx (r.set i (.v z)) M2
  | _ => False
def goPlus : GO := fun d e M Q => match d, e with
  | .int i, .int j => Q (.int (i + j)) M
  | _, _ => False
theorem ds_augI (i : Nat) {x : Str} {pos' : Pos} (hN : X.N.Nodup) (he : DE true p X e ge) (hi : X.N[i]? = some x := by rfl) (hx : Loc X.env.scope x := by first | exact Or.inl rfl | exact Or.inr rfl) (hf : X.fn x = true ∨ X.env.scope.names.lookup x = some .local := by first | exact .inl rfl | exact .inr rfl | assumption) :
    DS X (.AugAssign (.Name x pos') .Add e pos) (gAug i goPlus ge) := by
  refine ⟨psI (ps_aug hN hi hx he.run ip_add hf) fun D σ H ⟨B, E, r, M, O, R, q⟩ => ?_, fun D D' r M l q => ?_⟩
  · unfold gAug at q
    split at q
    · rename_i d er
      obtain ⟨x, e1, v, e2, i1⟩ := R.slot er
      subst e2
      refine ⟨v, e1, he.on R q fun e M1 u H1 O1 k1 R1 l1 i2 => ?_⟩
      have i2 : Is X.K (Av B M1 O1) H1 u e := i2
      unfold goPlus at k1
      split at k1
      · cases i1; cases i2
        exact ⟨_, _, rfl, rfl, k1 _ H1 O1 (R1.setv i (.int _))⟩
      · exact k1.elim
    · exact q.elim
  · unfold gAug at q ⊢
    split at q
    · refine he.mono _ _ _ _ (fun e M1 q1 => ?_) q
      unfold goPlus at q1 ⊢
      split at q1
      · exact l.nx _ _ q1
      · exact q1.elim
    · exact q.elim

/-! ### what is walked -/
abbrev GI := Fr → Mem → (List D → Mem → Prop) → Prop
/-- from a state on: item by item, as long as only what may change changes -/
def WalkOk (X : Cx) (B : Addr → Prop) (H1 : Hp) (M1 : Mem) (O1 : Own) (J : It) (ds : List D) : Prop := ∀ A U H, (∀ b, H b = none → ¬ A b) → Step (Av B M1 O1) H1 A H → Step (Mut M1 O1) H1 U H → ∀ i,
  (∀ d, ds[i]? = some d → J.go i H ∧ ∀ x H', J.yld i H x H' → Same H H' ∧ Is X.K A H' x d) ∧ (ds.length ≤ i → J.stop i H)
/-- .. while what was there stays as it was (where p says so) -/
def WalkQ (p : Bool) (X : Cx) (B : Addr → Prop) (H1 : Hp) (M1 : Mem) (O1 : Own) (J : It) (ds : List D) : Prop := ∀ A U H, (∀ b, H b = none → ¬ A b) → Step (Av B M1 O1) H1 A H → Step (Mut M1 O1) H1 U H → (p = true → Same H1 H) → ∀ i,
  (∀ d, ds[i]? = some d → J.go i H ∧ ∀ x H', J.yld i H x H' → Same H H' ∧ Is X.K A H' x d) ∧ (ds.length ≤ i → J.stop i H)
theorem WalkOk.q {p : Bool} {X : Cx} {B : Addr → Prop} {H1 : Hp} {M1 : Mem} {O1 : Own} {J : It} {ds : List D} (h : WalkOk X B H1 M1 O1 J ds) : WalkQ p X B H1 M1 O1 J ds := fun A U H a b c _ => h A U H a b c
structure DI (p : Bool) (X : Cx) (tg iter : Expr) (gi : GI) : Prop where
  ex : ∃ wi, PI X tg iter wi ∧ ∀ B E σ H r M O k R', Rep X B E σ H r M O → gi r M k → (∀ ds M1 H1 O1 J, k ds M1 → Rep X B E σ H1 r M1 O1 → Rl p M O H M1 O1 H1 → WalkOk X B H1 M1 O1 J ds → R' J H1) → wi σ H R'
  mono : ∀ r M Q Q', (∀ d M', Q d M' → Q' d M') → gi r M Q → gi r M Q'
/-- from here on: the heap as it is now -/
def En.now (E : En) (H : Hp) (M : Mem) (O : Own) : En := { E with H := H, U := Mut M O }
theorem Rep.now (R : Rep X B E σ H r M O) : Rep X B (E.now H M O) σ H r M O :=
  ⟨R.m, R.len, R.sl, Step.refl _ _, R.sub, fun C M' H' O' h1 h2 h3 => R.exc C M' H' O' h1 (R.ent.trans h2) h3, R.lk, R.xe⟩
theorem Rep.then (R : Rep X B E σ H r M O) {σ' : L2.St} {H' : Hp} {r' : Fr} {M' : Mem} {O' : Own} (R' : Rep X B (E.now H M O) σ' H' r' M' O') : Rep X B E σ' H' r' M' O' :=
  ⟨R'.m, R'.len, R'.sl, R.ent.trans R'.ent, R.sub, R.exc, R.lk, R'.xe⟩
end
end DL

set_option Elab.async false
set_option linter.all false
set_option maxRecDepth 100000
/-! DL10: what is walked; for, while, comprehensions. -/
namespace DL
open PySem PySem.Spec PyProof.Rows L2

section
variable {X : Cx} {w p : Bool} {e t iter tg : Expr} {es : List Expr} {g ga ge : GE} {gf : GF} {gs : GA} {gt : GG} {gi : GI} {B : Addr → Prop} {E : En} {σ : L2.St} {H : Hp} {r : Fr} {M : Mem} {O : Own} {pos : Pos}
theorem av_step {H1 : Hp} {M1 : Mem} {O1 : Own} (s : Step (Mut M1 O1) H1 (Mut M O) H) : Step (Av B M1 O1) H1 (Av B M O) H := fun a o e n =>
  have n1 : ¬ B a := fun z => n (.inl z)
  have ⟨h1, h2⟩ := s a o e fun z => n (.inr z)
  ⟨h1, fun z => z.elim n1 h2⟩
/-- a list or tuple that stands -/
theorem walk_lst {H1 : Hp} {M1 : Mem} {O1 : Own} {a : Addr} {vs : List V} {ds : List D} (h : LstAt (Mut M1 O1) H1 a vs) (l : IsL X.K (Av B M1 O1) H1 vs ds) : WalkOk X B H1 M1 O1 (Itl X.K a) ds := by
  intro A U H fA sA s i
  have h' := h.step s
  have l' := l.step sA
  refine ⟨fun d hd => ?_, fun hle => ⟨vs, SqL.of h'.2, by rw [l'.length]; exact hle⟩⟩
  obtain ⟨v, hv, iv⟩ := l'.get hd
  refine ⟨⟨vs, v, SqL.of h'.2, hv⟩, fun x H' ⟨e1, e2⟩ => ?_⟩
  subst e1
  have e3 := e2 vs (SqL.of h'.2)
  rw [hv] at e3
  cases e3
  exact ⟨Same.refl _, iv⟩
theorem walk_tup {H1 : Hp} {M1 : Mem} {O1 : Own} {a : Addr} {vs : List V} {ds : List D} (h : TupAt X.K (Mut M1 O1) H1 a vs) (l : IsL X.K (Av B M1 O1) H1 vs ds) : WalkOk X B H1 M1 O1 (Itt X.K a) ds := by
  intro A U H fA sA s i
  have h' := h.step s
  have l' := l.step sA
  refine ⟨fun d hd => ?_, fun hle => ⟨vs, h'.sq, by rw [l'.length]; exact hle⟩⟩
  obtain ⟨v, hv, iv⟩ := l'.get hd
  refine ⟨⟨vs, v, h'.sq, hv⟩, fun x H' ⟨e1, e2⟩ => ?_⟩
  subst e1
  have e3 := e2 vs h'.sq
  rw [hv] at e3
  cases e3
  exact ⟨Same.refl _, iv⟩
theorem lst_mut {a : Addr} {vs : List V} (h : LstAt (Av B M O) H a vs) : LstAt (Mut M O) H a vs := ⟨fun z => h.1 (.inr z), h.2⟩
theorem tup_mut {a : Addr} {vs : List V} (h : TupAt X.K (Av B M O) H a vs) : TupAt X.K (Mut M O) H a vs := by
  rcases h with ⟨n, h⟩ | h
  · exact .inl ⟨fun z => n (.inr z), h⟩
  · exact .inr h
def giL (ga : GE) : GI := fun r M Q => ga r M fun d M1 => match d with
  | .lst ds => Q ds M1
  | _ => False
def giT (ga : GE) : GI := fun r M Q => ga r M fun d M1 => match d with
  | .tup ds => Q ds M1
  | _ => False
theorem di_lst (ha : DE true p X iter ga) : DI p X tg iter (giL ga) where
  ex := ⟨_, pi_list ha.run, fun B E σ H r M O k R' R q hR => by
    refine ha.on R q fun d M1 v H1 O1 k1 R1 l1 i1 => ?_
    have i1 : Is X.K (Av B M1 O1) H1 v d := i1
    split at k1
    · cases i1 with
      | @lst a vs _ h l => exact ⟨a, rfl, ⟨vs, SqL.of h.2⟩, hR _ M1 H1 O1 _ k1 R1 l1 (walk_lst (lst_mut h) l)⟩
    · exact k1.elim⟩
  mono := fun r M Q Q' h q => ha.mono _ _ _ _ (fun d M1 q1 => by
    split at q1
    · exact h _ _ q1
    · exact q1.elim) q
theorem di_tup (ha : DE true p X iter ga) : DI p X tg iter (giT ga) where
  ex := ⟨_, pi_tup ha.run, fun B E σ H r M O k R' R q hR => by
    refine ha.on R q fun d M1 v H1 O1 k1 R1 l1 i1 => ?_
    have i1 : Is X.K (Av B M1 O1) H1 v d := i1
    split at k1
    · cases i1 with
      | @tup a vs _ h l => exact ⟨a, rfl, ⟨vs, h.sq⟩, hR _ M1 H1 O1 _ k1 R1 l1 (walk_tup (tup_mut h) l)⟩
    · exact k1.elim⟩
  mono := fun r M Q Q' h q => ha.mono _ _ _ _ (fun d M1 q1 => by
    split at q1
    · exact h _ _ q1
    · exact q1.elim) q
/-- a lent list, by its name -/
def giB (k : Bool) (i : Nat) : GI := fun r M Q => match r.sl[i]? with
  | some (.b k' ds) => k' = k ∧ Q ds M
  | some (.v (.lst ds)) => k = false ∧ Q ds M
  | some (.v (.tup ds)) => k = true ∧ Q ds M
  | _ => False
theorem giB_mono {k : Bool} {i : Nat} : ∀ r M Q Q', (∀ d M', Q d M' → Q' d M') → giB k i r M Q → giB k i r M Q' := fun r M Q Q' h q => by
  unfold giB at q ⊢
  split at q
  · exact ⟨q.1, h _ _ q.2⟩
  · exact ⟨q.1, h _ _ q.2⟩
  · exact ⟨q.1, h _ _ q.2⟩
  · exact q.elim
theorem di_lentL (i : Nat) {x : Str} (hN : X.N[i]? = some x := by rfl) (hv : Vis X.env.scope x := by first | exact Or.inl rfl | exact Or.inr (Or.inl rfl) | exact Or.inr (Or.inr rfl)) (hd : (x == ("__debug__" : Str)) = false := by decide)
    (hcd : (x == ("__classdict__" : Str)) = false := by decide) : DI p X tg (.Name x pos) (giB false i) where
  ex := ⟨_, pi_list (pe_var hN hv hd hcd), fun B E σ H r M O k R' R q hR => by
    unfold giB at q
    split at q
    · rename_i er
      obtain ⟨x, e1, a, vs, e2, h, l⟩ := R.slot er
      subst e2
      obtain ⟨ek, q⟩ := q
      subst ek
      exact ⟨_, e1, a, rfl, ⟨vs, SqL.of (show LstAt _ H a vs from h).2⟩, hR _ M H O _ q R Rl.refl (walk_lst h l)⟩
    · rename_i er
      obtain ⟨x, e1, v, e2, i1⟩ := R.slot er
      subst e2
      cases i1 with
      | @lst a vs _ h l => exact ⟨_, e1, a, rfl, ⟨vs, SqL.of h.2⟩, hR _ M H O _ q.2 R Rl.refl (walk_lst (lst_mut h) l)⟩
    · exact absurd q.1 (by decide)
    · exact q.elim⟩
  mono := giB_mono
theorem di_lentT (i : Nat) {x : Str} (hN : X.N[i]? = some x := by rfl) (hv : Vis X.env.scope x := by first | exact Or.inl rfl | exact Or.inr (Or.inl rfl) | exact Or.inr (Or.inr rfl)) (hd : (x == ("__debug__" : Str)) = false := by decide)
    (hcd : (x == ("__classdict__" : Str)) = false := by decide) : DI p X tg (.Name x pos) (giB true i) where
  ex := ⟨_, pi_tup (pe_var hN hv hd hcd), fun B E σ H r M O k R' R q hR => by
    unfold giB at q
    split at q
    · rename_i er
      obtain ⟨x, e1, a, vs, e2, h, l⟩ := R.slot er
      subst e2
      obtain ⟨ek, q⟩ := q
      subst ek
      exact ⟨_, e1, a, rfl, ⟨vs, (show TupAt _ _ H a vs from h).sq⟩, hR _ M H O _ q R Rl.refl (walk_tup h l)⟩
    · exact absurd q.1 (by decide)
    · rename_i er
      obtain ⟨x, e1, v, e2, i1⟩ := R.slot er
      subst e2
      cases i1 with
      | @tup a vs _ h l => exact ⟨_, e1, a, rfl, ⟨vs, h.sq⟩, hR _ M H O _ q.2 R Rl.refl (walk_tup (tup_mut h) l)⟩
    · exact q.elim⟩
  mono := giB_mono
/-- the script -/
def giS (i : Nat) : GI := fun r M Q => match r.sl[i]? with
  | some (.s ns) => Q (ns.map D.int) M
  | _ => False
theorem di_scr (i : Nat) {x : Str} (hN : X.N[i]? = some x := by rfl) (hv : Vis X.env.scope x := by first | exact Or.inl rfl | exact Or.inr (Or.inl rfl) | exact Or.inr (Or.inr rfl)) (hd : (x == ("__debug__" : Str)) = false := by decide)
    (hcd : (x == ("__classdict__" : Str)) = false := by decide) : DI p X tg (.Name x pos) (giS i) where
  ex := ⟨_, pi_list (pe_var hN hv hd hcd), fun B E σ H r M O k R' R q hR => by
    unfold giS at q
    split at q
    · rename_i ns er
      obtain ⟨x, e1, a, e2, h⟩ := R.slot er
      subst e2
      refine ⟨_, e1, a, rfl, ⟨_, h.sq⟩, hR _ M H O _ q R Rl.refl ?_⟩
      intro A2 U2 H2 fA sA s j
      have h' := (h.step s).sq
      refine ⟨fun d hd => ?_, fun hle => ⟨_, h', by rw [List.length_map] at hle ⊢; exact hle⟩⟩
      obtain ⟨v, hv, iv⟩ := (IsL.ints (K := X.K) (A := A2) (H := H2) ns).get hd
      refine ⟨⟨_, v, h', hv⟩, fun x H' ⟨e1, e2⟩ => ?_⟩
      subst e1
      have e3 := e2 _ h'
      rw [hv] at e3
      cases e3
      exact ⟨Same.refl _, iv⟩
    · exact q.elim⟩
  mono := fun r M Q Q' h q => by
    unfold giS at q ⊢
    split at q
    · exact h _ _ q
    · exact q.elim
/-- range -/
def rngD (lo : Int) (n : Nat) : List D := (List.range n).map fun (i : Nat) => D.int (lo + i)
theorem rngD_get {lo : Int} {n i : Nat} {d : D} (h : (rngD lo n)[i]? = some d) : i < n ∧ d = .int (lo + i) := by
  unfold rngD at h
  rw [List.getElem?_map] at h
  cases q : (List.range n)[i]? with
  | none => rw [q] at h; cases h
  | some j =>
    rw [q] at h
    obtain ⟨h1, h2⟩ := List.getElem?_eq_some_iff.mp q
    rw [List.length_range] at h1
    rw [List.getElem_range] at h2
    subst h2
    have h : some (D.int (lo + (i : Nat))) = some d := h
    cases h
    exact ⟨h1, rfl⟩
theorem rngD_len (lo : Int) (n : Nat) : (rngD lo n).length = n := by unfold rngD; rw [List.length_map, List.length_range]
theorem walk_rng {H1 : Hp} {M1 : Mem} {O1 : Own} {lo : Int} {n : Nat} : WalkOk X B H1 M1 O1 (Itr lo n) (rngD lo n) := by
  intro A U H fA sA s i
  refine ⟨fun d hd => ?_, fun hle => by rw [rngD_len] at hle; exact hle⟩
  obtain ⟨h1, rfl⟩ := rngD_get hd
  refine ⟨h1, fun x H' ⟨e1, e2⟩ => ?_⟩
  subst e1; subst e2
  exact ⟨Same.refl _, .int _⟩
def giR1 (gs : GA) : GI := fun r M Q => gs r M fun ds M1 => match ds with
  | [.int j] => (-(2 ^ 62) ≤ j ∧ j < 2 ^ 62) ∧ Q (rngD 0 j.toNat) M1
  | _ => False
def giR2 (gs : GA) : GI := fun r M Q => gs r M fun ds M1 => match ds with
  | [.int i, .int j] => (-(2 ^ 62) ≤ i ∧ i < 2 ^ 62 ∧ -(2 ^ 62) ≤ j ∧ j < 2 ^ 62) ∧ Q (rngD i (j - i).toNat) M1
  | _ => False
theorem di_range1 {a : Expr} {pf : Pos} (hg : Gl X "range") (hm : X.mg "range" = none) (ha : DA w p X [a] gs) (hs : starEach [a] X.env = [(false, eval a X.env)] := by rfl) : DI p X tg (.Call (.Name "range" pf) [a] [] pos) (giR1 gs) where
  ex := ⟨_, pi_range1 hg hm ha.run hs, fun B E σ H r M O k R' R q hR => by
    refine ha.on R q fun ds M1 vs H1 O1 k1 R1 l1 i1 => ?_
    have i2 := isXL_weak i1
    split at k1
    · obtain ⟨v, rfl, iv⟩ := isXL1 i2
      rw [is1_int iv]
      exact ⟨_, rfl, k1.1.1, k1.1.2, hR _ M1 H1 O1 _ k1.2 R1 l1 walk_rng⟩
    · exact k1.elim⟩
  mono := fun r M Q Q' h q => ha.mono _ _ _ _ (fun d M1 q1 => by
    split at q1
    · exact ⟨q1.1, h _ _ q1.2⟩
    · exact q1.elim) q
theorem di_range2 {a b : Expr} {pf : Pos} (hg : Gl X "range") (hm : X.mg "range" = none) (ha : DA w p X [a, b] gs) (hs : starEach [a, b] X.env = [(false, eval a X.env), (false, eval b X.env)] := by rfl) (hs2 : starEach [b] X.env = [(false, eval b X.env)] := by rfl) : DI p X tg (.Call (.Name "range" pf) [a, b] [] pos) (giR2 gs) where
  ex := ⟨_, pi_range2 hg hm ha.run hs hs2, fun B E σ H r M O k R' R q hR => by
    refine ha.on R q fun ds M1 vs H1 O1 k1 R1 l1 i1 => ?_
    have i2 := isXL_weak i1
    split at k1
    · obtain ⟨v, u, rfl, iv, iu⟩ := isXL2 i2
      rw [is1_int iv, is1_int iu]
      exact ⟨_, _, rfl, k1.1, hR _ M1 H1 O1 _ k1.2 R1 l1 walk_rng⟩
    · exact k1.elim⟩
  mono := fun r M Q Q' h q => ha.mono _ _ _ _ (fun d M1 q1 => by
    split at q1
    · exact ⟨q1.1, h _ _ q1.2⟩
    · exact q1.elim) q

/-! ### for -/
def loopD (gt : GG) (gb : GS) : List D → GS
  | [] => fun D r M => D.nx r M
  | d :: ds => fun D r M => gt d r M fun r' M' => gb { D with nx := loopD gt gb ds D, ct := loopD gt gb ds D, bk := D.nx } r' M'
def gFor (gi : GI) (gt : GG) (gb : GS) : GS := fun D r M => gi r M fun ds M1 => loopD gt gb ds D r M1
theorem loopD_mono {gb : GS} (ht : ∀ d r M Q Q', (∀ r' M', Q r' M' → Q' r' M') → gt d r M Q → gt d r M Q') (hb : MonoS gb) : ∀ ds, MonoS (loopD gt gb ds)
  | [] => fun D D' r M l q => l.nx _ _ q
  | d :: ds => fun D D' r M l q => by
    have ih := loopD_mono ht hb ds
    exact ht d r M _ _ (fun r' M' q1 => hb { D with nx := loopD gt gb ds D, ct := loopD gt gb ds D, bk := D.nx } _ r' M' ⟨fun r2 M2 q2 => ih D D' r2 M2 l q2, l.rt, fun r2 M2 q2 => l.nx _ _ q2, fun r2 M2 q2 => ih D D' r2 M2 l q2⟩ q1) q
theorem ds_for {body : List Stmt} {gb : GS} {ws : List Nat} (hp : PassesOwn (model X.prog X.w) X.A X.env X.xe) (hc : X.calm = true) (hi : DI p X tg iter gi) (hg : DT' X tg ws gt) (hb : DSs X body gb)
    (hs : ∀ x, foldedSetIterable iter X.env x = pure x := by intro _; rfl) : DS X (.For tg iter body [] pos) (gFor gi gt gb) := by
  obtain ⟨wi, hpi, hwi⟩ := hi.ex
  refine ⟨psI (ps_for hp hc hpi hg.p.run hb.run hs) fun D σ H ⟨B, E, r, M, O, R, q⟩ => ?_, fun D D' r M l q => hi.mono _ _ _ _ (fun ds M1 q1 => loopD_mono hg.p.mono hb.mono ds D D' r M1 l q1) q⟩
  refine hwi B E σ H r M O _ _ R q fun ds M1 H1 O1 J k1 R1 _ W1 => ?_
  refine ⟨fun i m σ' H' => i + m = ds.length ∧ ∃ r' M' O', Rep X B (E.now H1 M1 O1) σ' H' r' M' O' ∧ loopD gt gb (ds.drop i) (LS X B E D) r' M',
    ⟨ds.length, by omega, r, M1, O1, R1.now, by rw [List.drop_zero]; exact k1⟩, fun i m σ' H' ⟨him, r', M', O', R', q'⟩ => ?_⟩
  obtain ⟨w1, w2⟩ := W1 (Av B M' O') _ H' (fun b h => R'.m.fresh h) (av_step R'.ent) R'.ent i
  by_cases hlt : i < ds.length
  · right
    obtain ⟨d, hd⟩ : ∃ d, ds[i]? = some d := ⟨_, List.getElem?_eq_getElem hlt⟩
    obtain ⟨go, yl⟩ := w1 d hd
    have hdrop : ds.drop i = d :: ds.drop (i + 1) := by
      rw [List.drop_eq_getElem_cons hlt]
      rw [List.getElem?_eq_getElem hlt] at hd
      cases hd
      rfl
    rw [hdrop] at q'
    refine ⟨go, fun σ2 H2 => ∃ r2 M2 O2, Rep X B (E.now H1 M1 O1) σ2 H2 r2 M2 O2 ∧ loopD gt gb (ds.drop (i + 1)) (LS X B E D) r2 M2, fun σ2 H2 h2 => ⟨m - 1, by omega, by omega, h2⟩, fun x H2 hy => ?_⟩
    obtain ⟨sm, ix⟩ := yl x H2 hy
    have R2 := R'.same sm
    refine ⟨B, E.now H1 M1 O1, r', M', O', d, R2, ix, ?_⟩
    refine hg.p.mono _ _ _ _ _ (fun r3 M3 q3 => ?_) (hg.s _ _ _ _ q')
    obtain ⟨⟨e3, _⟩, q3⟩ := q3
    subst e3
    refine ⟨rfl, fun σ3 _ R3 => ⟨B, E.now H1 M1 O1, r3, M3, O', R3, ?_⟩⟩
    refine hb.mono { LS X B E D with nx := loopD gt gb (ds.drop (i + 1)) (LS X B E D), ct := loopD gt gb (ds.drop (i + 1)) (LS X B E D), bk := (LS X B E D).nx } _ _ _ ⟨fun r4 M4 q4 σ4 H4 O4 R4 => ⟨r4, M4, O4, R4, q4⟩, fun d4 M4 q4 v4 H4 O4 h4 s4 i4 => q4 v4 H4 O4 h4 (R1.ent.trans s4) i4, fun r4 M4 q4 σ4 H4 O4 R4 => q4 σ4 H4 O4 (R1.then R4), fun r4 M4 q4 σ4 H4 O4 R4 => ⟨r4, M4, O4, R4, q4⟩⟩ q3
  · left
    have hn : ds.drop i = [] := List.drop_eq_nil_of_le (by omega)
    rw [hn] at q'
    exact ⟨w2 (by omega), q' σ' H' O' (R1.then R')⟩

/-! ### while -/
def gWhile (gc : GT) (gb : GS) : GS := fun D r M => ∃ W : Nat → Fr → Mem → Prop, (∃ m, W m r M) ∧ ∀ m r M, W m r M →
  gc r M fun b M1 => if b = true then gb { D with nx := fun r' M' => ∃ m', m' < m ∧ W m' r' M', ct := fun r' M' => ∃ m', m' < m ∧ W m' r' M', bk := D.nx } r M1 else D.nx r M1
theorem ds_while {c : Expr} {body : List Stmt} {gc : GT} {gb : GS} (hp : PassesOwn (model X.prog X.w) X.A X.env X.xe) (hc : DT p X c gc) (hb : DSs X body gb) : DS X (.While c body [] pos) (gWhile gc gb) := by
  refine ⟨psI (ps_while hp hc.run hb.run) fun D σ H ⟨B, E, r, M, O, R, W, ⟨m0, w0⟩, turn⟩ => ?_, fun D D' r M l ⟨W, w0, turn⟩ => ⟨W, w0, fun m r M w => hc.mono _ _ _ _ (fun b M1 q1 => ?_) (turn m r M w)⟩⟩
  · refine ⟨fun m σ' H' => ∃ r' M' O', Rep X B E σ' H' r' M' O' ∧ W m r' M', ⟨m0, r, M, O, R, w0⟩, fun m σ' H' ⟨r', M', O', R', w'⟩ => ?_⟩
    refine hc.on R' (turn m r' M' w') fun b M1 H1 O1 k1 R1 l1 => ?_
    cases b with
    | true =>
      rw [if_pos rfl] at k1 ⊢
      refine ⟨fun σ2 H2 => ∃ m', m' < m ∧ ∃ r2 M2 O2, Rep X B E σ2 H2 r2 M2 O2 ∧ W m' r2 M2, fun σ2 H2 h => h, B, E, r', M1, O1, R1, ?_⟩
      refine hb.mono { LS X B E D with nx := fun r' M' => ∃ m', m' < m ∧ W m' r' M', ct := fun r' M' => ∃ m', m' < m ∧ W m' r' M', bk := (LS X B E D).nx } _ _ _ ⟨fun r2 M2 ⟨m', h1, h2⟩ σ2 H2 O2 R2 => ⟨m', h1, r2, M2, O2, R2, h2⟩, fun _ _ q => q, fun r2 M2 q2 σ2 H2 O2 R2 => q2 σ2 H2 O2 R2, fun r2 M2 ⟨m', h1, h2⟩ σ2 H2 O2 R2 => ⟨m', h1, r2, M2, O2, R2, h2⟩⟩ k1
    | false =>
      rw [if_neg Bool.false_ne_true] at k1 ⊢
      exact k1 σ' H1 O1 R1
  · cases b with
    | true =>
      rw [if_pos rfl] at q1 ⊢
      exact hb.mono { D with nx := fun r' M' => ∃ m', m' < m ∧ W m' r' M', ct := fun r' M' => ∃ m', m' < m ∧ W m' r' M', bk := D.nx } _ _ _ ⟨fun _ _ q => q, l.rt, fun r2 M2 q2 => l.nx _ _ q2, fun _ _ q => q⟩ q1
    | false =>
      rw [if_neg Bool.false_ne_true] at q1 ⊢
      exact l.nx _ _ q1
end
end DL

set_option Elab.async false
set_option linter.all false
set_option maxRecDepth 100000
/-! DL11: comprehensions. -/
namespace DL
open PySem PySem.Spec PyProof.Rows L2

def wipeS (sl : List Sl) : List Nat → List Sl
  | [] => sl
  | v :: vs => (wipeS sl vs).set v .n
theorem wipeS_len (sl : List Sl) : ∀ vs, (wipeS sl vs).length = sl.length
  | [] => rfl
  | v :: vs => by unfold wipeS; rw [List.length_set, wipeS_len sl vs]
theorem wipeS_get {sl : List Sl} {j : Nat} {s : Sl} : ∀ {vs : List Nat}, (wipeS sl vs)[j]? = some s → s = .n ∨ (j ∉ vs ∧ sl[j]? = some s)
  | [], h => .inr ⟨by simp, h⟩
  | v :: vs, h => by
    unfold wipeS at h
    by_cases hj : v = j
    · subst hj
      by_cases hv : v < (wipeS sl vs).length
      · rw [List.getElem?_set_self hv] at h
        cases h
        exact .inl rfl
      · rw [List.getElem?_eq_none (by simpa using hv)] at h
        cases h
    · rw [List.getElem?_set_ne hj] at h
      rcases wipeS_get h with h | ⟨h1, h2⟩
      · exact .inl h
      · exact .inr ⟨by simp only [List.mem_cons, not_or]; exact ⟨fun e => hj e.symm, h1⟩, h2⟩
theorem wipeS_out {sl : List Sl} {j : Nat} : ∀ {vs : List Nat}, j ∉ vs → (wipeS sl vs)[j]? = sl[j]?
  | [], _ => rfl
  | v :: vs, h => by
    unfold wipeS
    rw [List.getElem?_set_ne (fun e => h (by simp [e])), wipeS_out fun z => h (List.mem_cons_of_mem _ z)]
theorem wipe_out {σ : L2.St} {j : Nat} : ∀ {vs : List Nat}, j ∉ vs → (wipe σ vs)[j]? = σ[j]?
  | [], _ => rfl
  | v :: vs, h => by
    unfold wipe
    rw [List.getElem?_set_ne (fun e => h (by simp [e])), wipe_out fun z => h (List.mem_cons_of_mem _ z)]
theorem wipe_in {σ : L2.St} {j : Nat} (hj : j < σ.length) : ∀ {vs : List Nat}, j ∈ vs → (wipe σ vs)[j]? = some none
  | v :: vs, h => by
    unfold wipe
    by_cases hv : v = j
    · subst hv
      rw [List.getElem?_set_self (by rw [wipe_length]; exact hj)]
    · rw [List.getElem?_set_ne hv]
      exact wipe_in hj ((List.mem_cons.mp h).resolve_left fun e => hv e.symm)
theorem wipe_same {σ σ' : L2.St} {ws vs : List Nat} (o : Out ws (wipe σ vs) σ') (h : ∀ j ∈ ws, j ∈ vs) : wipe σ' vs = wipe σ vs := by
  apply List.ext_getElem?
  intro j
  by_cases hj : j ∈ vs
  · by_cases hl : j < σ.length
    · rw [wipe_in hl hj, wipe_in (by rw [o.1, wipe_length]; exact hl) hj]
    · rw [List.getElem?_eq_none (by rw [wipe_length, o.1, wipe_length]; omega), List.getElem?_eq_none (by rw [wipe_length]; omega)]
  · rw [wipe_out hj, o.2 j fun z => hj (h j z)]
def wipeF (r : Fr) (vs : List Nat) : Fr := ⟨wipeS r.sl vs, fun _ _ => False⟩
def noOwn (r : Fr) (vs : List Nat) : Bool := vs.all fun j => match r.sl[j]? with
  | some (.o _) => false
  | _ => true
def En.blk (H : Hp) (M : Mem) (O : Own) : En := ⟨fun _ => False, H, Mut M O, fun _ _ => False, fun _ _ => False⟩
theorem pass_no {X : Cx} : Takes X (fun cls d _ H => xk (fun _ _ => False) cls d H) := fun u s' h => by
  obtain ⟨_, _, _, _, _, _, _, _, _, _, _, _, _, _, _, _, z⟩ := h
  obtain ⟨_, _, _, z⟩ := z
  exact z.elim

section
variable {X X' : Cx} {w p : Bool} {e t iter tg : Expr} {es : List Expr} {g ga ge : GE} {gf : GF} {gs : GA} {gt : GG} {gi : GI} {gtt : GT} {B : Addr → Prop} {E : En} {σ : L2.St} {H H' : Hp} {r : Fr} {M : Mem} {O : Own} {pos : Pos}
theorem New.blk {a : Addr} (hK : X'.K = X.K) (N : New X B E σ H r M O a) (vs : List Nat) : Rep X' (Bp B a) (En.blk H M O) (wipe σ vs) H (wipeF r vs) M O := by
  refine ⟨by rw [hK]; exact N.m, by show (wipe σ vs).length = (wipeS r.sl vs).length; rw [wipe_length, wipeS_len]; exact N.len, fun i s e => ?_, Step.refl _ _, fun _ z => z.elim, fun _ _ _ _ _ _ z => z.elim, pass_no, rfl⟩
  rcases wipeS_get e with rfl | ⟨hi, e⟩
  · trivial
  · rw [wipe_out hi, hK]
    have q := N.sl i s e
    rw [← av_up] at q
    exact q.stepS (Step.refl _ _) step_dn fun l q => ⟨q, fun _ e => e⟩
def lcD (gt : GG) (gtt : GT) (ge : GE) (r : Fr) : List D → List D → Mem → (List D → Mem → Prop) → Prop
  | [], acc, M, Q => Q acc M
  | d :: ds, acc, M, Q => gt d r M fun r1 M1 => gtt r1 M1 fun b M2 => if b = true then ge r1 M2 fun x M3 => acc.length < sizeLine ∧ lcD gt gtt ge r ds (acc ++ [x]) M3 Q else lcD gt gtt ge r ds acc M2 Q
theorem lcD_mono (ht : ∀ d r M Q Q', (∀ r' M', Q r' M' → Q' r' M') → gt d r M Q → gt d r M Q') (htt : ∀ r M Q Q', (∀ d M', Q d M' → Q' d M') → gtt r M Q → gtt r M Q') (he : ∀ r M Q Q', (∀ d M', Q d M' → Q' d M') → ge r M Q → ge r M Q') :
    ∀ ds acc M Q Q', (∀ a M', Q a M' → Q' a M') → lcD gt gtt ge r ds acc M Q → lcD gt gtt ge r ds acc M Q'
  | [], acc, M, Q, Q', h, q => h _ _ q
  | d :: ds, acc, M, Q, Q', h, q => ht _ _ _ _ _ (fun r1 M1 q1 => htt _ _ _ _ (fun b M2 q2 => by
      cases b with
      | true =>
        rw [if_pos rfl] at q2 ⊢
        exact he _ _ _ _ (fun x M3 q3 => ⟨q3.1, lcD_mono ht htt he ds _ _ _ _ h q3.2⟩) q2
      | false =>
        rw [if_neg Bool.false_ne_true] at q2 ⊢
        exact lcD_mono ht htt he ds _ _ _ _ h q2) q1) q
def gLc (gi : GI) (gt : GG) (gtt : GT) (ge : GE) (vs : List Nat) : GF := fun r M Q => noOwn r vs = true ∧ gi r M fun ds M1 => lcD gt gtt ge (wipeF r vs) ds [] M1 fun acc M2 => Q (.lst acc) M2
/-- the tests of a comprehension -/
structure DTts (p : Bool) (X : Cx) (ifs : List Expr) (g : GT) : Prop where
  run : PTs X ifs (fun σ H Q => ∃ B E r M O, Rep X B E σ H r M O ∧ g r M (LT p X B E σ r H M O Q))
  mono : ∀ r M Q Q', (∀ d M', Q d M' → Q' d M') → g r M Q → g r M Q'
def gYes : GT := fun _ M Q => Q true M
theorem dtts_nil : DTts p X [] gYes := ⟨⟨fun pins s σ H Q I ⟨B, E, r, M, O, R, q⟩ => pts_nil.run pins s σ H Q I (q H O R Rl.refl)⟩, fun _ _ _ _ h q => h _ _ q⟩
theorem dtts_one {c : Expr} {gc : GT} (h : DT p X c gc) : DTts p X [c] gc := ⟨pts_one h.run, h.mono⟩
theorem DTts.on {ifs : List Expr} {gt : GT} (ha : DTts p X ifs gt) (R : Rep X B E σ H r M O) {k : Bool → Mem → Prop} (h : gt r M k) {Q : Bool → Hp → Prop}
    (hk : ∀ d M1 H1 O1, k d M1 → Rep X B E σ H1 r M1 O1 → Rl p M O H M1 O1 H1 → Q d H1) :
    ∃ B E r M O, Rep X B E σ H r M O ∧ gt r M (LT p X B E σ r H M O Q) :=
  ⟨B, E, r, M, O, R, ha.mono r M _ _ (fun d M1 h1 H1 O1 R1 l1 => hk d M1 H1 O1 h1 R1 l1) h⟩
/-- behind a turn: the slots as they were -/
theorem New.turn {a : Addr} (hK : X'.K = X.K) (N : New X B E σ H r M O a) {vs ws : List Nat} (hws : ∀ j ∈ ws, j ∈ vs) (hno : noOwn r vs = true) {σ2 : L2.St} {r2 : Fr} {E2 : En} {M' : Mem} {O' : Own} (o : Out ws (wipe σ vs) σ2) (f : ∀ j, j ∉ ws → r2.sl[j]? = (wipeF r vs).sl[j]?)
    (l : Rl p M O H M' O' H') (R : Rep X' (Bp B a) E2 σ2 H' r2 M' O') (ha : H a ≠ none) : New X B E σ H' r M' O' a := by
  have nav : ¬ Av B M' O' a := fun z => by
    rcases z with z | z
    · exact N.nav (.inl z)
    · cases e : H a with
      | none => exact ha e
      | some o => exact (l.2 a o e fun q => N.nav (.inr q)).2 z
  have sA : Step (Up (Av B M O) a) H (Up (Av B M' O') a) H' := step_up l.avs
  have sU : Step (Up (Mut M O) a) H (Up (Mut M' O') a) H' := step_up l.2
  refine ⟨by rw [← hK]; exact R.m, N.len, fun i sl e => ?_, N.ent.trans sU, N.sub, N.exc, N.lk, N.xe, nav⟩
  have q := N.sl i sl e
  cases sl with
  | n => trivial
  | v d =>
    obtain ⟨v, e1, e2⟩ := q
    exact ⟨v, e1, e2.step sA⟩
  | o m =>
    have hi : i ∉ vs := fun z => by
      have h := List.all_eq_true.mp hno i z
      rw [e] at h
      cases h
    have hi' : i ∉ ws := fun z => hi (hws i z)
    have e2 : r2.sl[i]? = some (.o m) := by
      rw [f i hi']
      show (wipeS r.sl vs)[i]? = _
      rw [wipeS_out hi]; exact e
    have q2 : SlU X'.K (Av (Bp B a) M' O') (Mut M' O') O' H' i ((σ2[i]?).getD none) (.o m) := R.sl i _ e2
    rw [o.2 i hi', wipe_out hi, hK, av_up] at q2
    exact q2
  | b k ds =>
    obtain ⟨a, vs, e1, e2, e3⟩ := q
    exact ⟨a, vs, e1, e2.step sU, e3.step sA⟩
  | s ns =>
    obtain ⟨a, e1, e2⟩ := q
    exact ⟨a, e1, e2.step sU⟩
theorem Rl.put {a : Addr} {H1 : Hp} {M1 : Mem} {O1 : Own} {u : HO} (l : Rl p M1 O1 H1 M O H) (n : H1 a = none) : Rl p M1 O1 H1 M O (upd H a u) :=
  ⟨fun e => by
    obtain ⟨h1, h2, h3⟩ := l.1 e
    exact ⟨h1, h2, fun b o e => by rw [upd_ne (ne_of_none e n)]; exact h3 b o e⟩,
  fun b o e nb => by
    obtain ⟨h1, h2⟩ := l.2 b o e nb
    exact ⟨by rw [upd_ne (ne_of_none e n)]; exact h1, h2⟩⟩
/-- the new list grows: nobody stands on it -/
theorem New.put {a : Addr} (N : New X B E σ H r M O a) (ha : H a ≠ none) {u : HO} : New X B E σ (upd H a u) r M O a := by
  have s : ∀ {A : Addr → Prop}, Step (Up A a) H (Up A a) (upd H a u) := fun {A} b o e n => ⟨by rw [upd_ne (fun z => n (.inr z))]; exact e, n⟩
  have nO : O a = none := by
    cases e : O a with
    | none => rfl
    | some w => exact (N.nav (.inr (.inr (by rw [e]; simp)))).elim
  have nM : M a = none := by
    cases e : M a with
    | none => rfl
    | some w => exact (N.nav (.inr (.inl (by rw [e]; simp)))).elim
  have keep : ∀ {b : Addr} {o : HO}, b ≠ a → H b = some o → upd H a u b = some o := fun {b o} h e => by rw [upd_ne h]; exact e
  have nn : ∀ {b : Addr}, H b ≠ none → upd H a u b ≠ none := fun {b} h => by
    by_cases hb : b = a
    · subst hb; rw [upd_same]; exact fun z => nomatch z
    · rw [upd_ne hb]; exact h
  refine ⟨⟨fun b mo e => ?_, fun b w e => ?_, fun b z => nn (N.m.btr b z)⟩, N.len, fun i sl e => (N.sl i sl e).stepS s s fun l q => ⟨q, fun o e => keep (fun z => ?_) e⟩, N.ent.trans s, N.sub, N.exc, N.lk, N.xe, N.nav⟩
  · obtain ⟨h1, h2, h3⟩ := N.m.mem b mo e
    refine ⟨h1, h2, ?_⟩
    rw [av_up] at h3 ⊢
    exact h3.stepS s (fun o e' => keep (fun z => by subst z; rw [nM] at e; cases e) e') fun l f q => ⟨q, fun o e => keep (fun z => by subst z; rw [nO] at q; cases q) e⟩
  · exact ⟨(N.m.own b w e).1, nn (N.m.own b w e).2⟩
  · subst z
    rw [nO] at q
    cases q
/-- the same, whatever the context's exceptions: none are let out -/
structure RepK (K : PySem.W.Frag) (B : Addr → Prop) (E : En) (σ : L2.St) (H : Hp) (r : Fr) (M : Mem) (O : Own) : Prop where
  m : MemOk K B H M O
  len : σ.length = r.sl.length
  sl : ∀ i s, r.sl[i]? = some s → SlOk K B H M O i ((σ[i]?).getD none) s
  ent : Step E.U E.H (Mut M O) H
  sub : ∀ b, E.B b → B b
  xe : r.ex = E.X
  no : E.X = (fun _ _ => False) ∧ E.W = (fun _ _ => False)
theorem RepK.rep (R : RepK X'.K B E σ H r M O) : Rep X' B E σ H r M O :=
  ⟨R.m, R.len, R.sl, R.ent, R.sub, fun C M' H' O' _ _ z => by rw [R.no.1] at z; exact z.elim, by rw [R.no.2]; exact pass_no, R.xe⟩
theorem Rep.k (R : Rep X' B E σ H r M O) (h : E.X = (fun _ _ => False) ∧ E.W = (fun _ _ => False)) : RepK X'.K B E σ H r M O := ⟨R.m, R.len, R.sl, R.ent, R.sub, R.xe, h⟩
def uE (p : Bool) (K : PySem.W.Frag) (g : GE) : TE := fun σ H Q => ∃ B E r M O, RepK K B E σ H r M O ∧ g r M fun d M' => ∀ v H' O', RepK K B E σ H' r M' O' → Rl p M O H M' O' H' → Is K (Av B M' O') H' v d → Q v H'
def uT (p : Bool) (K : PySem.W.Frag) (g : GT) : TT := fun σ H Q => ∃ B E r M O, RepK K B E σ H r M O ∧ g r M fun d M' => ∀ H' O', RepK K B E σ H' r M' O' → Rl p M O H M' O' H' → Q d H'
def uG (K : PySem.W.Frag) (ws : List Nat) (g : GG) : TG := fun v σ H Q => ∃ B E r M O d, RepK K B E σ H r M O ∧ Is K (Av B M O) H v d ∧ g d r M fun r' M' => (M' = M ∧ ∀ j, j ∉ ws → r'.sl[j]? = r.sl[j]?) ∧ ∀ σ', Out ws σ σ' → RepK K B E σ' H r' M O → Q σ' H
theorem DE.u (h : DE true p X' e ge) : PE X' e (uE p X'.K ge) := peI h.run fun σ H Q ⟨B, E, r, M, O, R, q⟩ =>
  h.on R.rep q fun d M1 v H1 O1 k1 R1 l1 i1 => k1 v H1 O1 (R1.k R.no) l1 i1
theorem DTts.u {ifs : List Expr} (h : DTts p X' ifs gtt) : PTs X' ifs (uT p X'.K gtt) := ⟨fun pins s σ H Q I ⟨B, E, r, M, O, R, q⟩ => h.run.run pins s σ H Q I
  (h.on R.rep q fun d M1 H1 O1 k1 R1 l1 => k1 H1 O1 (R1.k R.no) l1)⟩
theorem DT'.u {ws : List Nat} (h : DT' X' tg ws gt) : PG X' tg (uG X'.K ws gt) := pgI h.p.run fun v σ H Q ⟨B, E, r, M, O, d, R, i1, q⟩ =>
  ⟨B, E, r, M, O, d, R.rep, i1, h.p.mono _ _ _ (fun r' M' => (M' = M ∧ ∀ j, j ∉ ws → r'.sl[j]? = r.sl[j]?) ∧ ∀ σ', Out ws σ σ' → RepK X'.K B E σ' H r' M O → Q σ' H) _ (fun r' M' q1 => ⟨q1.1.1, fun σ' o R' => q1.2 σ' o (R'.k R.no)⟩) q⟩
theorem New.same {a : Addr} (N : New X B E σ H r M O a) (s : Same H H') : New X B E σ H' r M O a :=
  ⟨N.m.same s, N.len, fun i sl e => (N.sl i sl e).stepS (step_same s fun _ z => z) (step_same s fun _ z => z) fun l q => ⟨q, s l⟩, N.ent.trans (step_same s fun _ z => z), N.sub, N.exc, N.lk, N.xe, N.nav⟩
theorem lc_imp {ws vs : List Nat} {wi : TI} (hwi : ∀ B E σ H r M O k R', Rep X B E σ H r M O → gi r M k → (∀ ds M1 H1 O1 J, k ds M1 → Rep X B E σ H1 r M1 O1 → Rl p M O H M1 O1 H1 → WalkQ p X B H1 M1 O1 J ds → R' J H1) → wi σ H R')
    (hgm : ∀ d r M Q Q', (∀ r' M', Q r' M' → Q' r' M') → gt d r M Q → gt d r M Q') (htm : ∀ r M Q Q', (∀ d M', Q d M' → Q' d M') → gtt r M Q → gtt r M Q') (hem : ∀ r M Q Q', (∀ d M', Q d M' → Q' d M') → ge r M Q → ge r M Q') (hgs : SameM ws gt)
    (hws : ∀ j ∈ ws, j ∈ vs) (σ : L2.St) (H : Hp) (Q : VK) (hh : ∃ B E r M O, Rep X B E σ H r M O ∧ gLc gi gt gtt ge vs r M (fun m M' => ∀ a H' O', New X B E σ H' r M' O' a → Rl p M O H M' O' H' → OOk X.K (Up (Av B M' O') a) H' a m → Q (.ref a) H')) :
    tLc wi (uG X.K ws gt) (uT p X.K gtt) (uE p X.K ge) vs σ H Q := by
  obtain ⟨B, E, r, M, O, R, hno, q⟩ := hh
  refine hwi B E σ H r M O _ _ R q fun ds M1 H1 O1 J k1 R1 l1 W1 => ?_
  intro a n
  refine ⟨fun i m H2 => i + m = ds.length ∧ ∃ M2 O2 acc vs', New X B E σ H2 r M2 O2 a ∧ H2 a = some (.lst vs') ∧ IsL X.K (Up (Av B M2 O2) a) H2 vs' acc ∧ Rl p M1 O1 H1 M2 O2 H2 ∧ lcD gt gtt ge (wipeF r vs) (ds.drop i) acc M2 (fun acc' M' =>
      ∀ a' H' O', New X B E σ H' r M' O' a' → Rl p M O H M' O' H' → OOk X.K (Up (Av B M' O') a') H' a' (.lst acc') → Q (.ref a') H'),
    ⟨ds.length, by omega, M1, O1, [], [], New.of R1 n, upd_same, .nil, Rl.of_same (same_upd n), by rw [List.drop_zero]; exact k1⟩, fun i m H2 ⟨him, M2, O2, acc, vs', N2, e2, i2, l2, q2⟩ => ?_⟩
  obtain ⟨w1, w2⟩ := W1 (Up (Av B M2 O2) a) _ H2 (fun b h => by rw [← av_up]; exact N2.m.fresh h) (fun b o e nb => by
    obtain ⟨h1, h2⟩ := l2.avs b o e nb
    exact ⟨h1, fun z => z.elim h2 fun z => (ne_of_none e n) z⟩) l2.2 (fun e => (l2.1 e).2.2) i
  by_cases hlt : i < ds.length
  · right
    obtain ⟨d, hd⟩ : ∃ d, ds[i]? = some d := ⟨_, List.getElem?_eq_getElem hlt⟩
    obtain ⟨go, yl⟩ := w1 d hd
    have hdrop : ds.drop i = d :: ds.drop (i + 1) := by
      rw [List.drop_eq_getElem_cons hlt]
      rw [List.getElem?_eq_getElem hlt] at hd
      cases hd
      rfl
    rw [hdrop] at q2
    have ha2 : H2 a ≠ none := by rw [e2]; exact fun z => nomatch z
    refine ⟨go, fun H3 => ∃ M2 O2 acc vs', New X B E σ H3 r M2 O2 a ∧ H3 a = some (.lst vs') ∧ IsL X.K (Up (Av B M2 O2) a) H3 vs' acc ∧ Rl p M1 O1 H1 M2 O2 H3 ∧ lcD gt gtt ge (wipeF r vs) (ds.drop (i + 1)) acc M2 (fun acc' M' =>
      ∀ a' H' O', New X B E σ H' r M' O' a' → Rl p M O H M' O' H' → OOk X.K (Up (Av B M' O') a') H' a' (.lst acc') → Q (.ref a') H'), fun H3 h3 => ⟨m - 1, by omega, by omega, h3⟩, fun x H3 hy => ?_⟩
    obtain ⟨sm, ix⟩ := yl x H3 hy
    -- the state at the turn's begin
    have N3 : New X B E σ H3 r M2 O2 a := N2.same sm
    have R3 : RepK X.K (Bp B a) (En.blk H3 M2 O2) (wipe σ vs) H3 (wipeF r vs) M2 O2 := (New.blk (X' := X) rfl N3 vs).k ⟨rfl, rfl⟩
    have e3 : H3 a = some (.lst vs') := sm _ _ e2
    have ha3 : H3 a ≠ none := by rw [e3]; exact fun z => nomatch z
    have i3 : IsL X.K (Up (Av B M2 O2) a) H3 vs' acc := i2.step (step_same sm fun _ z => z)
    have l3 : Rl p M1 O1 H1 M2 O2 H3 := l2.trans (Rl.of_same sm)
    have na : ¬ Mut M2 O2 a := fun z => N3.nav (.inr z)
    refine ⟨Bp B a, En.blk H3 M2 O2, wipeF r vs, M2, O2, d, R3, by rw [av_up]; exact ix, ?_⟩
    refine hgm _ _ _ _ _ (fun r4 M4 q4 => ?_) (hgs _ _ _ _ q2)
    obtain ⟨⟨e4, f4⟩, q4⟩ := q4
    subst e4
    refine ⟨⟨rfl, f4⟩, fun σ4 o4 R4 => ⟨wipe_same o4 hws, Bp B a, En.blk H3 M4 O2, r4, M4, O2, R4, ?_⟩⟩
    refine htm _ _ _ _ (fun b M5 q5 H5 O5 R5 l5 => ?_) q4
    have N5 : New X B E σ H5 r M5 O5 a := N3.turn (X' := X) rfl hws hno o4 f4 l5 R5.rep ha3
    have e5 : H5 a = some (.lst vs') := (l5.2 a _ e3 na).1
    have i5 : IsL X.K (Up (Av B M5 O5) a) H5 vs' acc := i3.step (step_up l5.avs)
    cases b with
    | false =>
      rw [if_neg Bool.false_ne_true] at q5
      refine iteF ?_
      exact ⟨M5, O5, acc, vs', N5, e5, i5, l3.trans l5, q5⟩
    | true =>
      rw [if_pos rfl] at q5
      refine iteT ?_
      refine ⟨Bp B a, En.blk H3 M4 O2, r4, M5, O5, R5, ?_⟩
      refine hem _ _ _ _ (fun y M6 q6 v6 H6 O6 R6 l6 i6 => ?_) q5
      have l56 := l5.trans l6
      have N6 : New X B E σ H6 r M6 O6 a := N3.turn (X' := X) rfl hws hno o4 f4 l56 R6.rep ha3
      have e6 : H6 a = some (.lst vs') := (l56.2 a _ e3 na).1
      have i6' : IsL X.K (Up (Av B M6 O6) a) H6 vs' acc := i3.step (step_up l56.avs)
      have ha6 : H6 a ≠ none := by rw [e6]; exact fun z => nomatch z
      rw [av_up] at i6
      refine ⟨vs', e6, by rw [i6'.length]; exact q6.1, M6, O6, acc ++ [y], vs' ++ [v6], N6.put ha6, upd_same, ?_, (l3.trans l56).put n, q6.2⟩
      have s : Step (Up (Av B M6 O6) a) H6 (Up (Av B M6 O6) a) (upd H6 a (.lst (vs' ++ [v6]))) := fun b o e nb => ⟨by rw [upd_ne (fun z => nb (.inr z))]; exact e, nb⟩
      exact (i6'.append (.cons i6 .nil)).step s
  · left
    have hn : ds.drop i = [] := List.drop_eq_nil_of_le (by omega)
    rw [hn] at q2
    exact ⟨w2 (by omega), q2 a H2 O2 N2 (l1.trans l2) ⟨vs', e2, i2⟩⟩
theorem df_lc {elt : Expr} {ifs : List Expr} {scope : Scope} {own : List (Str × Nat)} {ws : List Nat} (hc : X.calm = true) (hN : X.N.Nodup) (hi : DI p X tg iter gi) (ok : BlkOk X.N X.env.scope scope own)
    (hg : ∀ (s : Shared) (H : Hp) (C : Addr) (cl : List (Str × Addr)) (fp : List Addr), DT' (X.blk s H scope (compEnvC scope cl C X.env) fp) tg ws gt)
    (ht : ∀ (s : Shared) (H : Hp) (C : Addr) (cl : List (Str × Addr)) (fp : List Addr), DTts p (X.blk s H scope (compEnvC scope cl C X.env) fp) ifs gtt)
    (he : ∀ (s : Shared) (H : Hp) (C : Addr) (cl : List (Str × Addr)) (fp : List Addr), DE true p (X.blk s H scope (compEnvC scope cl C X.env) fp) elt ge)
    (hgm : ∀ d r M Q Q', (∀ r' M', Q r' M' → Q' r' M') → gt d r M Q → gt d r M Q') (htm : ∀ r M Q Q', (∀ d M', Q d M' → Q' d M') → gtt r M Q → gtt r M Q') (hem : ∀ r M Q Q', (∀ d M', Q d M' → Q' d M') → ge r M Q → ge r M Q') (hgs : SameM ws gt)
    (hws : ∀ j ∈ ws, j ∈ own.map (·.2)) (hs : ∀ x, foldedSetIterable iter X.env x = pure x := by intro _; rfl) : DF p X (.ListComp elt [⟨tg, iter, ifs, 0⟩] scope pos) (gLc gi gt gtt ge (own.map (·.2))) := by
  obtain ⟨wi, hpi, hwi⟩ := hi.ex
  exact ⟨peI (pe_lc (te := uE p X.K ge) (tt := uT p X.K gtt) (g := uG X.K ws gt) hc hN hpi ok (fun s H C cl fp => (hg s H C cl fp).u) (fun s H C cl fp => (ht s H C cl fp).u) (fun s H C cl fp => (he s H C cl fp).u) hs) (lc_imp (fun B E σ H r M O k R' R q hR => hwi B E σ H r M O k R' R q fun ds M1 H1 O1 J k1 R1 l1 W => hR ds M1 H1 O1 J k1 R1 l1 W.q) hgm htm hem hgs hws),
    fun r M Q Q' h q => ⟨q.1, hi.mono _ _ _ _ (fun ds M1 q1 => lcD_mono hgm htm hem ds _ _ _ _ (fun a M' q2 => h _ _ q2) q1) q.2⟩⟩
theorem ds_lc (i : Nat) {y : Str} {py spos : Pos} {elt : Expr} {ifs : List Expr} {scope : Scope} {own : List (Str × Nat)} {ws : List Nat} (hc : X.calm = true) (hN : X.N.Nodup) (hi : DI p X tg iter gi) (ok : BlkOk X.N X.env.scope scope own)
    (hg : ∀ (s : Shared) (H : Hp) (C : Addr) (cl : List (Str × Addr)) (fp : List Addr), DT' (X.blk s H scope (compEnvC scope cl C X.env) fp) tg ws gt)
    (ht : ∀ (s : Shared) (H : Hp) (C : Addr) (cl : List (Str × Addr)) (fp : List Addr), DTts p (X.blk s H scope (compEnvC scope cl C X.env) fp) ifs gtt)
    (he : ∀ (s : Shared) (H : Hp) (C : Addr) (cl : List (Str × Addr)) (fp : List Addr), DE true p (X.blk s H scope (compEnvC scope cl C X.env) fp) elt ge)
    (hgm : ∀ d r M Q Q', (∀ r' M', Q r' M' → Q' r' M') → gt d r M Q → gt d r M Q') (htm : ∀ r M Q Q', (∀ d M', Q d M' → Q' d M') → gtt r M Q → gtt r M Q') (hem : ∀ r M Q Q', (∀ d M', Q d M' → Q' d M') → ge r M Q → ge r M Q') (hgs : SameM ws gt)
    (hws : ∀ j ∈ ws, j ∈ own.map (·.2)) (hs : ∀ x, foldedSetIterable iter X.env x = pure x := by intro _; rfl)
    (hi' : X.N[i]? = some y := by rfl) (hy : X.env.scope.names.lookup y = some .local := by rfl) (hsw : swapsWith (.ListComp elt [⟨tg, iter, ifs, 0⟩] scope pos) (some (.Name y py)) spos.line X.env = pure true := by rfl) :
    PS X (.Assign [.Name y py] (.ListComp elt [⟨tg, iter, ifs, 0⟩] scope pos) spos) (fun D σ H => ∃ B E r M O, Rep X B E σ H r M O ∧ gLc gi gt gtt ge (own.map (·.2)) r M (fun m M' => ∀ a H' O', New X B E σ H' r M' O' a → Rl p M O H M' O' H' → OOk X.K (Up (Av B M' O') a) H' a m → D.nx (σ.set i (some (.ref a))) H')) := by
  obtain ⟨wi, hpi, hwi⟩ := hi.ex
  exact psI (ps_setLc (te := uE p X.K ge) (tt := uT p X.K gtt) (g := uG X.K ws gt) hc hN hi' hy hsw hpi ok (fun s H C cl fp => (hg s H C cl fp).u) (fun s H C cl fp => (ht s H C cl fp).u) (fun s H C cl fp => (he s H C cl fp).u) hs) fun D σ H q =>
    lc_imp (fun B E σ H r M O k R' R q hR => hwi B E σ H r M O k R' R q fun ds M1 H1 O1 J k1 R1 l1 W => hR ds M1 H1 O1 J k1 R1 l1 W.q) hgm htm hem hgs hws σ H (fun x H1 => D.nx (σ.set i (some x)) H1) q
theorem gLc_mono (hi : DI p X tg iter gi) {vs : List Nat} (hgm : ∀ d r M Q Q', (∀ r' M', Q r' M' → Q' r' M') → gt d r M Q → gt d r M Q') (htm : ∀ r M Q Q', (∀ d M', Q d M' → Q' d M') → gtt r M Q → gtt r M Q') (hem : ∀ r M Q Q', (∀ d M', Q d M' → Q' d M') → ge r M Q → ge r M Q') :
    ∀ r M Q Q', (∀ d M', Q d M' → Q' d M') → gLc gi gt gtt ge vs r M Q → gLc gi gt gtt ge vs r M Q' := fun r M Q Q' h q => ⟨q.1, hi.mono _ _ _ _ (fun ds M1 q1 => lcD_mono hgm htm hem ds _ _ _ _ (fun a M' q2 => h _ _ q2) q1) q.2⟩
end
end DL

set_option Elab.async false
set_option linter.all false
set_option maxRecDepth 100000
/-! DL12: defs, their promises over data, calls. -/
namespace DL
open PySem PySem.Spec PyProof.Rows L2

/-! ### a def's promise, where no repr is under way -/
structure FnG (P : Program) (w : World) (K : PySem.W.Frag) (mg : Str → Option Value) (base : Heap) (k : Nat) (f : Addr) (fd : FuncData) (ps : List Str) (sp : Sp) : Prop where
  len : ∀ vs H Q E, sp vs H Q E → vs.length = ps.length
  run : ∀ (A : Around) (outer : List Env) (s : Shared) (H : Hp) (args : Args) (us : List Value) (vs : List V) (Q : VK) (E : XK), Room k A → A.guards = some [] → Env0 P w K mg base A outer s H → BindsTo s fd args (ps.zip us) →
    Vals vs us → sp vs H Q E → codeAny (model P w) A (.call (.ref f) args) (CR (L2.CX P w) outer P w H s Q E) s
section
variable {P : Program} {w : World} {K : PySem.W.Frag} {mg : Str → Option Value} {base : Heap} {j k : Nat} {f : Addr} {fd : FuncData} {ps : List Str} {sp sp' : Sp}
theorem FnG.mono (F : FnG P w K mg base j f fd ps sp) (h : j ≤ k) : FnG P w K mg base k f fd ps sp :=
  ⟨F.len, fun A outer s H args us vs Q E hr => F.run A outer s H args us vs Q E (hr.mono h)⟩
theorem FnG.imp (F : FnG P w K mg base k f fd ps sp) (h : ∀ vs H Q E, sp' vs H Q E → sp vs H Q E) : FnG P w K mg base k f fd ps sp' :=
  ⟨fun vs H Q E q => F.len vs H Q E (h _ _ _ _ q), fun A outer s H args us vs Q E hr hg he hb hv hs => F.run A outer s H args us vs Q E hr hg he hb hv (h _ _ _ _ hs)⟩
theorem fng_of {name qual : Str} {params : Arguments} {body : List Stmt} {scope : Scope} {dV kV doc pm cdv ct oc : Value} {an od : Option Addr} {osl : Array (Option Value)} {N : List Str}
    (lk : K.lookup f = some ⟨oc, od, .func (PySem.W.fnOf name qual params body scope dV kV doc pm an cdv ct), osl⟩) (hcd : PySem.W.codeIn K cdv qual = true) (S : FnScope N ps scope) (len : ∀ vs H Q E, sp vs H Q E → vs.length = ps.length)
    (hbody : ∀ (A : Around) (outer : List Env) (s : Shared) (H : Hp) (vs : List V) (Q : VK) (E : XK), Room k (A.deeper (envOfC qual scope s.heap.objs.size f cdv)) → A.guards = some [] → sp vs H Q E →
      ∃ t, PSs (cxOf (L2.CX P w) P w K mg base N qual scope f cdv A outer s H E) body t ∧ t { nx := fun _ H' => Q .non H', rt := Q } (L2.start N vs) H) :
    FnG P w K mg base (k + 1) f (PySem.W.fnOf name qual params body scope dV kV doc pm an cdv ct) ps sp := by
  refine ⟨len, fun A outer s H args us vs Q E hr hgd e0 hb r hsp => ?_⟩
  have hvl := len _ _ _ _ hsp
  have kIn : K.In s.heap := e0.mod.kin.keeps fun b o e => (e0.bs b o e).1
  have noLim : s.heap.NoLimit := e0.mod.nolimit.keeps fun b o e => (e0.bs b o e).1
  have kinds : ∀ y ∈ ps.zip us, scope.names.lookup y.1 = some .local ∨ (scope.names.lookup y.1 = some .cell ∧ ((cellsFrom (s.heap.objs.size + 1) scope.names []).lookup y.1).isSome = true) := by
    rintro ⟨n, v⟩ hy
    rcases S.par n (List.of_mem_zip hy).1 with q | q
    · exact .inl q
    · exact .inr ⟨q, PySem.W.cellsFrom_some _ _ _ (.inl q)⟩
  refine codeAny_call_function hr.depth (kIn _ _ lk) rfl S.co S.gen rfl (PySem.W.codeRec_of kIn hcd) (hb _ _ _ _ ?_)
  refine wpAny_newFunctionEnv_cells S.kind kinds fun env henv s1 x => ?_
  subst henv
  refine ⟨noLim.keeps x.toInCall.keep, codeAny_func ?_⟩
  obtain ⟨t, ht, hq⟩ := hbody A outer s H vs Q E (hr.deeper _) hgd hsp
  have I := inv_start (CX := L2.CX P w) (E := E) S hr.hd e0 hvl r x
  refine wpAny_mono (ht.run [] s1 (L2.start N vs) H _ I hq) (fun fl s' hs => ?_) fun e s' hs => hs
  cases fl with
  | ret u =>
    obtain ⟨v, σ', H', J, rv, q⟩ := hs
    exact ⟨v, H', J.os, J.bare, J.base, J.hok, rv, q⟩
  | next =>
    obtain ⟨σ', H', J, q⟩ := hs
    exact ⟨V.non, H', J.os, J.bare, J.base, J.hok, rfl, q⟩
  | brk =>
    obtain ⟨_, _, _, q⟩ := hs
    exact q.elim
  | cont =>
    obtain ⟨_, _, _, q⟩ := hs
    exact q.elim
end

/-! ### promises over data -/
/-- how an argument is handed in: as data, lent, the script -/
inductive AK where
  | v | b | s
abbrev FS := List D → Mem → (D → Mem → Prop) → (Addr → Mem → Prop) → Prop
def ArgOk (K : PySem.W.Frag) (A U : Addr → Prop) (H : Hp) (v : V) (d : D) : AK → Prop
  | .v => Is K A H v d
  | .b => match d with
    | .tup ds => ∃ a vs, v = .ref a ∧ TupAt K U H a vs ∧ IsL K A H vs ds
    | .lst ds => ∃ a vs, v = .ref a ∧ LstAt U H a vs ∧ IsL K A H vs ds
    | .dic _ => True
    | d => Is K A H v d
  | .s => ∃ a ns, v = .ref a ∧ d = .lst (ns.map D.int) ∧ ScrAt K U H a ns
def ArgsOk (K : PySem.W.Frag) (A U : Addr → Prop) (H : Hp) : List AK → List V → List D → Prop
  | [], [], [] => True
  | k :: ks, v :: vs, d :: ds => ArgOk K A U H v d k ∧ ArgsOk K A U H ks vs ds
  | _, _, _ => False
/-- no slot's own is in it -/
def Flds (O : Own) : Prop := ∀ a i, O a ≠ some (.slot i)
def toSp (K : PySem.W.Frag) (ks : List AK) (fs : FS) : Sp := fun vs H Q E => ∃ B M O ds, MemOk K B H M O ∧ Flds O ∧ ArgsOk K (Av B M O) (Mut M O) H ks vs ds ∧
  fs ds M (fun d M' => ∀ v H' O', MemOk K B H' M' O' → Flds O' → Step (Mut M O) H (Mut M' O') H' → Is K (Av B M' O') H' v d → Q v H')
    (fun C M' => ∀ H' O', MemOk K B H' M' O' → Flds O' → Step (Mut M O) H (Mut M' O') H' → E (.ref C) none H')
theorem ArgsOk.len {K : PySem.W.Frag} {A U : Addr → Prop} {H : Hp} : ∀ {ks : List AK} {vs : List V} {ds : List D}, ArgsOk K A U H ks vs ds → vs.length = ks.length
  | [], [], [], _ => rfl
  | _ :: ks, _ :: vs, _ :: ds, h => congrArg (· + 1) (ArgsOk.len h.2)
  | [], [], _ :: _, h => h.elim
  | [], _ :: _, [], h => h.elim
  | [], _ :: _, _ :: _, h => h.elim
  | _ :: _, [], [], h => h.elim
  | _ :: _, [], _ :: _, h => h.elim
  | _ :: _, _ :: _, [], h => h.elim
theorem ArgsOk.len2 {K : PySem.W.Frag} {A U : Addr → Prop} {H : Hp} : ∀ {ks : List AK} {vs : List V} {ds : List D}, ArgsOk K A U H ks vs ds → ds.length = ks.length
  | [], [], [], _ => rfl
  | _ :: ks, _ :: vs, _ :: ds, h => congrArg (· + 1) (ArgsOk.len2 h.2)
  | [], [], _ :: _, h => h.elim
  | [], _ :: _, [], h => h.elim
  | [], _ :: _, _ :: _, h => h.elim
  | _ :: _, [], [], h => h.elim
  | _ :: _, [], _ :: _, h => h.elim
  | _ :: _, _ :: _, [], h => h.elim
/-- the slots at the entry -/
def aSl : AK → D → Sl
  | .v, d => .v d
  | .b, .tup ds => .b true ds
  | .b, .lst ds => .b false ds
  | .b, .dic _ => .n
  | .b, d => .v d
  | .s, .lst ds => match intsOf ds with
    | some ns => .s ns
    | none => .n
  | .s, _ => .n
def aSls : List AK → List D → List Sl
  | k :: ks, d :: ds => aSl k d :: aSls ks ds
  | _, _ => []
def entry (n : Nat) (ks : List AK) (ds : List D) (X : Addr → Mem → Prop) : Fr := ⟨aSls ks ds ++ List.replicate (n - ks.length) .n, X⟩
theorem argSl {K : PySem.W.Frag} {B : Addr → Prop} {M : Mem} {O : Own} {H : Hp} {v : V} {d : D} {i : Nat} : ∀ {k : AK}, ArgOk K (Av B M O) (Mut M O) H v d k → SlOk K B H M O i (some v) (aSl k d)
  | .v, h => ⟨v, rfl, h⟩
  | .b, h => by
    cases d with
    | tup ds =>
      obtain ⟨a, vs, e, h1, h2⟩ := h
      exact ⟨a, vs, by rw [e], h1, h2⟩
    | lst ds =>
      obtain ⟨a, vs, e, h1, h2⟩ := h
      exact ⟨a, vs, by rw [e], h1, h2⟩
    | dic ds => trivial
    | _ => exact ⟨v, rfl, h⟩
  | .s, h => by
    obtain ⟨a, ns, e, e2, h⟩ := h
    subst e2
    show SlOk K B H M O i (some v) (match intsOf (ns.map D.int) with
      | some ns => Sl.s ns
      | none => Sl.n)
    rw [intsOf_map]
    exact ⟨a, by rw [e], h⟩
theorem argSls {K : PySem.W.Frag} {B : Addr → Prop} {M : Mem} {O : Own} {H : Hp} : ∀ {ks : List AK} {vs : List V} {ds : List D}, ArgsOk K (Av B M O) (Mut M O) H ks vs ds → (aSls ks ds).length = vs.length ∧ ∀ (i : Nat) (s : Sl), (aSls ks ds)[i]? = some s → ∃ v, vs[i]? = some v ∧ ∀ j, SlOk K B H M O j (some v) s
  | [], [], [], _ => ⟨rfl, fun i s e => by simp [aSls] at e⟩
  | k :: ks, v :: vs, d :: ds, h => by
    obtain ⟨h1, h2⟩ := argSls h.2
    refine ⟨congrArg (· + 1) h1, fun i s e => ?_⟩
    cases i with
    | zero =>
      have e : some (aSl k d) = some s := e
      cases e
      exact ⟨v, rfl, fun j => argSl h.1⟩
    | succ i => exact h2 i s e
  | [], [], _ :: _, h => h.elim
  | [], _ :: _, [], h => h.elim
  | [], _ :: _, _ :: _, h => h.elim
  | _ :: _, [], [], h => h.elim
  | _ :: _, [], _ :: _, h => h.elim
  | _ :: _, _ :: _, [], h => h.elim
def drops (O : Own) : Own := fun a => match O a with
  | some (.fld b f) => some (.fld b f)
  | _ => none
theorem drops_flds (O : Own) : Flds (drops O) := fun a i z => by
  unfold drops at z
  split at z <;> cases z
theorem mut_drops {M : Mem} {O : Own} (b : Addr) (z : Mut M (drops O) b) : Mut M O b := by
  rcases z with z | z
  · exact .inl z
  · refine .inr fun e => z ?_
    unfold drops
    rw [e]
theorem MemOk.drops {K : PySem.W.Frag} {B : Addr → Prop} {H : Hp} {M : Mem} {O : Own} (m : MemOk K B H M O) : MemOk K B H M (drops O) := by
  have s : Step (Av B M O) H (Av B M (DL.drops O)) H := step_id fun b _ n z => n (z.elim .inl fun z => .inr (mut_drops b z))
  refine ⟨fun b mo e => ?_, fun b w e => ?_, m.btr⟩
  · obtain ⟨h1, h2, h3⟩ := m.mem b mo e
    refine ⟨h1, by unfold DL.drops; rw [h2], h3.stepS s (fun _ e => e) fun l f q => ⟨by unfold DL.drops; rw [q], fun _ e => e⟩⟩
  · unfold DL.drops at e
    split at e
    · rename_i q
      exact m.own b _ q
    · cases e
def MonoF (fs : FS) : Prop := ∀ ds M Q Q' X X', (∀ d M', Q d M' → Q' d M') → (∀ C M', X C M' → X' C M') → fs ds M Q X → fs ds M Q' X'

section
variable {P : Program} {w : World} {K : PySem.W.Frag} {mg : Str → Option Value} {base : Heap} {j k : Nat} {f : Addr} {fd : FuncData} {ps : List Str} {fs : FS} {ks : List AK}
/-- THE RULE for a def: its body's derivation, and that its reading is what the promise asks -/
theorem d_fn {x qual : Str} {st : Stmt} {N : List Str} {g : GS} (F : Fun K x qual st f fd) (S : FnScope N ps (defScope st)) (hk : ks.length = ps.length)
    (hbody : ∀ (cdv : Value) (A : Around) (outer : List Env) (s : Shared) (H : Hp) (E : XK), Room k (A.deeper (envOfC qual (defScope st) s.heap.objs.size f cdv)) → A.guards = some [] →
      DSs (cxOf (L2.CX P w) P w K mg base N qual (defScope st) f cdv A outer s H E) (defBody st) g)
    (hfs : ∀ ds M Q X, fs ds M Q X → ds.length = ks.length → g { nx := fun _ M' => Q .non M', rt := Q } (entry N.length ks ds X) M) : FnG P w K mg base (k + 1) f fd ps (toSp K ks fs) := by
  obtain ⟨oc, od, kV, doc, pm, an, cdv, ct, osl, rfl, lk, hcd⟩ := F.ex
  refine fng_of lk hcd S (fun vs H Q E h => ?_) fun A outer s H vs Q E hr hgd hsp => ?_
  · obtain ⟨B, M, O, ds, _, _, h, _⟩ := h
    rw [h.len, hk]
  · obtain ⟨B, M, O, ds, hm, hO, ha, hq⟩ := hsp
    have hd := hbody cdv A outer s H E hr hgd
    refine ⟨_, hd.run, B, ⟨B, H, Mut M O, fun C M' => ∀ H' O', MemOk K B H' M' O' → Flds O' → Step (Mut M O) H (Mut M' O') H' → E (.ref C) none H', fun C H' => E (.ref C) none H'⟩, entry N.length ks ds _, M, O, ⟨hm, ?_, fun i s e => ?_, Step.refl _ _, fun _ z => z, fun C M' H' O' h1 h2 h3 => h3 H' (drops O') h1.drops (drops_flds _) (h2.trans (step_id fun b _ n z => n (mut_drops b z))), ?_, rfl⟩, ?_⟩
    · show (L2.start N vs).length = (aSls ks ds ++ List.replicate (N.length - ks.length) Sl.n).length
      unfold L2.start
      rw [List.length_append, List.length_append, List.length_map, List.length_replicate, List.length_replicate, (argSls ha).1, ha.len]
    · have e : (aSls ks ds ++ List.replicate (N.length - ks.length) Sl.n)[i]? = some s := e
      by_cases hi : i < (aSls ks ds).length
      · rw [List.getElem?_append_left hi] at e
        obtain ⟨v, hv, q⟩ := (argSls ha).2 i s e
        have e2 : (L2.start N vs)[i]? = some (some v) := by
          unfold L2.start
          rw [List.getElem?_append_left (by rw [List.length_map, ← (argSls ha).1]; exact hi), List.getElem?_map, hv]
          rfl
        rw [e2]
        exact q i
      · rw [List.getElem?_append_right (by omega), List.getElem?_replicate] at e
        split at e
        · cases e
          trivial
        · cases e
    · exact (takes_of rfl rfl rfl rfl).imp fun cls d σ H h => by
        obtain ⟨C, e1, e2, h⟩ := h
        subst e1; subst e2
        exact h
    · refine hd.mono { nx := fun _ M' => (fun d M' => ∀ v H' O', MemOk K B H' M' O' → Flds O' → Step (Mut M O) H (Mut M' O') H' → Is K (Av B M' O') H' v d → Q v H') .non M', rt := fun d M' => ∀ v H' O', MemOk K B H' M' O' → Flds O' → Step (Mut M O) H (Mut M' O') H' → Is K (Av B M' O') H' v d → Q v H' } _ _ _ ⟨fun r' M' q σ' H' O' R' => ?_, fun d M' q v H' O' h1 h2 h3 => ?_, fun _ _ z => z.elim, fun _ _ z => z.elim⟩ (hfs ds M _ _ hq ha.len2)
      · exact q .non H' (drops O') R'.m.drops (drops_flds _) (R'.ent.trans (step_id fun b _ n z => n (mut_drops b z))) .non
      · exact q v H' (drops O') h1.drops (drops_flds _) (h2.trans (step_id fun b _ n z => n (mut_drops b z))) (h3.step (step_id fun b _ n z => n (z.elim .inl fun z => .inr (mut_drops b z))))
end
end DL

set_option Elab.async false
set_option linter.all false
set_option maxRecDepth 100000
/-! DL13: calls of defs; raise. -/
namespace DL
open PySem PySem.Spec PyProof.Rows L2

def ArgX (K : PySem.W.Frag) (A U : Addr → Prop) (H : Hp) (v : V) (d : D) : AK → Prop
  | .v => Is K A H v d
  | .b => Is1 K A H v d
  | .s => ∃ a ns, v = .ref a ∧ d = .lst (ns.map D.int) ∧ ScrAt K U H a ns
def ArgsX (K : PySem.W.Frag) (A U : Addr → Prop) (H : Hp) : List AK → List V → List D → Prop
  | [], [], [] => True
  | k :: ks, v :: vs, d :: ds => ArgX K A U H v d k ∧ ArgsX K A U H ks vs ds
  | _, _, _ => False
def AK.w : AK → Bool
  | .b => false
  | _ => true
section
variable {X : Cx} {w p : Bool} {e : Expr} {es : List Expr} {g : GE} {gs : GA} {B : Addr → Prop} {E : En} {σ : L2.St} {H H' : Hp} {r : Fr} {M M' : Mem} {O O' : Own} {pos : Pos} {k : AK} {ks : List AK}
def LAk (p : Bool) (X : Cx) (ks : List AK) (B : Addr → Prop) (E : En) (σ : L2.St) (r : Fr) (H : Hp) (M : Mem) (O : Own) (Q : List V → Hp → Prop) : List D → Mem → Prop := fun ds M' =>
  ∀ vs H' O', Rep X B E σ H' r M' O' → Rl p M O H M' O' H' → ArgsX X.K (Av B M' O') (Mut M' O') H' ks vs ds → Q vs H'
structure DAk (p : Bool) (X : Cx) (ks : List AK) (es : List Expr) (g : GA) : Prop where
  run : PA X es (fun σ H Q => ∃ B E r M O, Rep X B E σ H r M O ∧ g r M (LAk p X ks B E σ r H M O Q))
  mono : ∀ r M Q Q', (∀ d M', Q d M' → Q' d M') → g r M Q → g r M Q'
theorem DAk.on (ha : DAk p X ks es gs) (R : Rep X B E σ H r M O) {kk : List D → Mem → Prop} (h : gs r M kk) {Q : List V → Hp → Prop}
    (hk : ∀ d M1 v H1 O1, kk d M1 → Rep X B E σ H1 r M1 O1 → Rl p M O H M1 O1 H1 → ArgsX X.K (Av B M1 O1) (Mut M1 O1) H1 ks v d → Q v H1) :
    ∃ B E r M O, Rep X B E σ H r M O ∧ gs r M (LAk p X ks B E σ r H M O Q) :=
  ⟨B, E, r, M, O, R, ha.mono r M _ _ (fun d M1 h1 v H1 O1 R1 l1 i1 => hk d M1 v H1 O1 h1 R1 l1 i1) h⟩
theorem dak_nil : DAk p X [] [] gNil := ⟨paI pa_nil fun σ H Q ⟨B, E, r, M, O, R, q⟩ => q [] H O R Rl.refl trivial, fun r M Q Q' h q => h _ _ q⟩
theorem argX_of (hk : k = .v ∨ k = .b) {A U : Addr → Prop} {v : V} {d : D} (h : IsX k.w X.K A H v d) : ArgX X.K A U H v d k := by
  rcases hk with rfl | rfl
  · exact h
  · exact h
theorem dak_cons (ha : DE k.w p X e g) (hr : DAk p X ks es gs) (hk : k = .v ∨ k = .b := by first | exact .inl rfl | exact .inr rfl) (hw : (k.w || p) = true := by first | rfl | exact Bool.or_true _) (hs : starEach (e :: es) X.env = (false, eval e X.env) :: starEach es X.env := by rfl) : DAk p X (k :: ks) (e :: es) (gCons g gs) := by
  refine ⟨paI (pa_cons ha.run hr.run hs) fun σ H Q ⟨B, E, r, M, O, R, q⟩ => ?_, fun r M Q Q' h q => ha.mono r M _ _ (fun d M1 q1 => hr.mono r M1 _ _ (fun ds M2 q2 => h _ _ q2) q1) q⟩
  refine ha.on R q fun d M1 v H1 O1 k1 R1 l1 i1 => ?_
  refine hr.on R1 k1 fun ds M2 vs H2 O2 k2 R2 l2 i2 => ?_
  exact k2 (v :: vs) H2 O2 R2 (l1.trans l2) ⟨argX_of hk (IsX.next hw l2 i1), i2⟩
theorem dak_one (ha : DE k.w p X e g) (hk : k = .v ∨ k = .b := by first | exact .inl rfl | exact .inr rfl) (hs : starEach [e] X.env = (false, eval e X.env) :: starEach [] X.env := by rfl) : DAk p X [k] [e] (gCons g gNil) := by
  refine ⟨paI (pa_cons ha.run pa_nil hs) fun σ H Q ⟨B, E, r, M, O, R, q⟩ => ?_, fun r M Q Q' h q => ha.mono r M _ _ (fun d M1 q1 => h _ _ q1) q⟩
  exact ha.on R q fun d M1 v H1 O1 k1 R1 l1 i1 => k1 [v] H1 O1 R1 l1 ⟨argX_of hk i1, trivial⟩
/-- the script handed on -/
def gScr (i : Nat) : GA := fun r M Q => match r.sl[i]? with
  | some (.s ns) => Q [.lst (ns.map D.int)] M
  | _ => False
theorem dak_scr (i : Nat) {x : Str} (hN : X.N[i]? = some x := by rfl) (hv : Vis X.env.scope x := by first | exact Or.inl rfl | exact Or.inr (Or.inl rfl) | exact Or.inr (Or.inr rfl)) (hd : (x == ("__debug__" : Str)) = false := by decide)
    (hcd : (x == ("__classdict__" : Str)) = false := by decide) (hs : starEach [Expr.Name x pos] X.env = (false, eval (.Name x pos) X.env) :: starEach [] X.env := by rfl) : DAk p X [.s] [.Name x pos] (gScr i) := by
  refine ⟨paI (pa_cons (pe_var hN hv hd hcd) pa_nil hs) fun σ H Q ⟨B, E, r, M, O, R, q⟩ => ?_, fun r M Q Q' h q => ?_⟩
  · unfold gScr at q
    split at q
    · rename_i ns er
      obtain ⟨x, e1, a, e2, h⟩ := R.slot er
      subst e2
      exact ⟨_, e1, q [_] H O R Rl.refl ⟨⟨a, ns, rfl, rfl, h⟩, trivial⟩⟩
    · exact q.elim
  · unfold gScr at q ⊢
    split at q
    · exact h _ _ q
    · exact q.elim
/-- len(script) -/
def gLenS (i : Nat) : GE := fun r M Q => match r.sl[i]? with
  | some (.s ns) => Q (.int ns.length) M
  | _ => False
theorem de_lenS (i : Nat) {x : Str} {px pf : Pos} (hg : Gl X "len") (hm : X.mg "len" = none) (hN : X.N[i]? = some x := by rfl) (hv : Vis X.env.scope x := by first | exact Or.inl rfl | exact Or.inr (Or.inl rfl) | exact Or.inr (Or.inr rfl)) (hd : (x == ("__debug__" : Str)) = false := by decide)
    (hcd : (x == ("__classdict__" : Str)) = false := by decide) (hs : starEach [Expr.Name x px] X.env = (false, eval (.Name x px) X.env) :: starEach [] X.env := by rfl) (hpl : (backTo pos (starEach [] X.env)).any (·.1) = false := by rfl) :
    DE true p X (.Call (.Name "len" pf) [.Name x px] [] pos) (gLenS i) := by
  refine ⟨peI (pe_callB call_len hg hm PySem.boot_len (pa_cons (pe_var hN hv hd hcd) pa_nil hs) (by decide) (by decide) hs hpl) fun σ H Q ⟨B, E, r, M, O, R, q⟩ => ?_, fun r M Q Q' h q => ?_⟩
  · unfold gLenS at q
    split at q
    · rename_i ns er
      obtain ⟨x, e1, a, e2, h⟩ := R.slot er
      subst e2
      exact ⟨_, e1, .ref a, _, rfl, .inl ⟨_, h.sq, rfl⟩, by rw [List.length_map]; exact fin_v R (.int _) q⟩
    · exact q.elim
  · unfold gLenS at q ⊢
    split at q
    · exact h _ _ q
    · exact q.elim

/-! ### a call -/
theorem run_fg {n : Nat} {f : Addr} {fd : FuncData} {ps : List Str} {sp : Sp} {Ex : XK} {pins : List (Addr × Obj)} {s : Shared} {Q : VK} {us : List Value} {vs : List V} (F : FnG X.prog X.w X.K X.mg X.base n f fd ps sp) (hr : Room n X.A) (hgd : X.A.guards = some [])
    (hb : Binds X.K fd ps []) (hx : Passes (L2.CX X.prog X.w) X Ex) (I : Inv X pins σ H s) (rv : Vals vs us) (h : sp vs H Q Ex) : wpAny (model X.prog X.w) X.A (call (.ref f) us) (EP X pins σ Q) X.xe s := by
  have hlen : (us ++ []).length = ps.length := by rw [List.append_nil, ← rv.length]; exact F.len _ _ _ _ h
  have hbd := hb s us I.kIn hlen
  rw [List.append_nil] at hbd
  refine wpAny_call (codeAny_mono (F.run X.A X.stack s H ⟨us, []⟩ us vs Q Ex hr hgd I.env0 hbd rv h) fun r s' hq => ?_)
  cases r with
  | error e => exact hx pins σ H s e s' I hq
  | ok fl =>
    cases fl with
    | ret u => exact I.after hq
    | next => exact hq.elim
    | brk => exact hq.elim
    | cont => exact hq.elim
theorem MemOk.subB {B0 : Addr → Prop} {K : PySem.W.Frag} (m : MemOk K B H M O) (h : ∀ b, B0 b → B b) : MemOk K B0 H M O := by
  have s : Step (Av B M O) H (Av B0 M O) H := step_id fun b _ n z => n (z.elim (fun z => .inl (h b z)) .inr)
  refine ⟨fun b mo e => ?_, fun b w e => ?_, fun b z => m.btr b (h b z)⟩
  · obtain ⟨h1, h2, h3⟩ := m.mem b mo e
    exact ⟨fun z => h1 (h b z), h2, h3.stepS s (fun _ e => e) fun l f q => ⟨q, fun _ e => e⟩⟩
  · exact ⟨fun z => (m.own b w e).1 (h b z), (m.own b w e).2⟩
def M0 : Mem := fun _ => none
def O0 : Own := fun _ => none
theorem mut0 (b : Addr) : ¬ Mut M0 O0 b := fun z => z.elim (fun z => z rfl) fun z => z rfl
theorem av0 {B : Addr → Prop} : Av B M0 O0 = B := by
  funext b
  apply propext
  exact ⟨fun z => z.elim _root_.id fun z => (mut0 b z).elim, .inl⟩
theorem argOk0 {A U : Addr → Prop} {K : PySem.W.Frag} {v : V} {d : D} : ∀ {k : AK}, ArgX K A U H v d k → ArgOk K A (Mut M0 O0) H v d k
  | .v, h => h
  | .b, h => by
    cases d with
    | tup ds =>
      obtain ⟨a, vs, e, h1, h2⟩ := h
      refine ⟨a, vs, e, ?_, h2⟩
      rcases h1 with h1 | h1
      · exact .inl ⟨mut0 a, h1⟩
      · exact .inr h1
    | lst ds =>
      obtain ⟨a, vs, e, h1, h2⟩ := h
      exact ⟨a, vs, e, ⟨mut0 a, h1⟩, h2⟩
    | dic ds => trivial
    | _ => exact h
  | .s, ⟨a, ns, e1, e2, h⟩ => by
    refine ⟨a, ns, e1, e2, ?_⟩
    rcases h with ⟨_, h⟩ | h
    · exact .inl ⟨mut0 a, h⟩
    · exact .inr h
theorem argsOk0 {A U : Addr → Prop} {K : PySem.W.Frag} : ∀ {ks : List AK} {vs : List V} {ds : List D}, ArgsX K A U H ks vs ds → ArgsOk K A (Mut M0 O0) H ks vs ds
  | [], [], [], _ => trivial
  | _ :: _, _ :: _, _ :: _, h => ⟨argOk0 h.1, argsOk0 h.2⟩
  | [], [], _ :: _, h => h.elim
  | [], _ :: _, [], h => h.elim
  | [], _ :: _, _ :: _, h => h.elim
  | _ :: _, [], [], h => h.elim
  | _ :: _, [], _ :: _, h => h.elim
  | _ :: _, _ :: _, [], h => h.elim
/-- a call that is handed no memory: it changes nothing -/
def gCallP (fs : FS) (gs : GA) : GE := fun r M Q => gs r M fun ds M1 => fs ds M0 (fun d _ => Q d M1) fun C _ => r.ex C M1
theorem callP_pre {fs : FS} (R : Rep X B E σ H r M O) {vs : List V} {ds : List D} (ha : ArgsX X.K (Av B M O) (Mut M O) H ks vs ds) {Q : VK} (h : fs ds M0 (fun d _ => LE w p X B E σ r H M O Q d M) fun C _ => r.ex C M) (hmf : MonoF fs) : toSp X.K ks fs vs H Q (xk E.W) := by
  refine ⟨Av B M O, M0, O0, ds, ⟨fun a mo e => (nomatch e), fun a w e => (nomatch e), fun a z n => R.m.fresh n z⟩, fun a i z => (nomatch z), by rw [av0]; exact argsOk0 ha, ?_⟩
  have sm : ∀ {H' : Hp} {M' : Mem} {O' : Own}, Step (Mut M0 O0) H (Mut M' O') H' → Same H H' := fun s a o e => (s a o e (mut0 a)).1
  refine hmf _ _ _ _ _ _ (fun d M' q v H' O' h1 h2 h3 h4 => ?_) (fun C M' q H' O' h1 h2 h3 => ?_) h
  · exact q v H' O (R.same (sm h3)) (Rl.of_same (sm h3)) (IsX.of (h4.step (step_id fun b _ n z => n (.inl z))))
  · refine ⟨C, rfl, rfl, ?_⟩
    have R' := R.same (sm h3)
    refine R.exc C M H' O (R'.m.subB R.sub) R'.ent ?_
    rw [← R.xe]
    exact q
theorem de_callP {n : Nat} {f : Addr} {fd : FuncData} {ps : List Str} {fs : FS} {x : Str} {pf : Pos} (F : FnG X.prog X.w X.K X.mg X.base n f fd ps (toSp X.K ks fs)) (hmf : MonoF fs) (hr : Room n X.A) (hgd : X.A.guards = some []) (hg : Gl X x) (hm : X.mg x = some (.ref f))
    (hk : PySem.W.keepIn X.K (.ref f) = true) (hb : Binds X.K fd ps []) (ha : DAk p X ks (e :: es) gs) (hdb : (x == ("__debug__" : Str)) = false := by decide) (he : starEach (e :: es) X.env = (false, eval e X.env) :: starEach es X.env := by rfl)
    (hpl : (backTo pos (starEach es X.env)).any (·.1) = false := by rfl) : DE true p X (.Call (.Name x pf) (e :: es) [] pos) (gCallP fs gs) := by
  refine ⟨⟨fun pins s σ H Q I ⟨B, E, r, M, O, R, q⟩ => ?_⟩, fun r M Q Q' h q => ha.mono _ _ _ _ (fun ds M1 q1 => hmf _ _ _ _ _ _ (fun d M' q2 => h _ _ q2) (fun C M' q2 => q2) q1) q⟩
  refine wpAny_Call_Name_kw (ld_glob I hg hm ?_ hdb)
  have hq := ha.on R q (Q := fun vs H1 => Passes (L2.CX X.prog X.w) X (xk E.W) ∧ toSp X.K ks fs vs H1 Q (xk E.W)) fun ds M1 vs H1 O1 k1 R1 l1 i1 => ⟨R1.ps, callP_pre R1 i1 (hmf _ _ _ _ _ _ (fun d M' q2 => LE.go l1 q2) (fun C M' q2 => q2) k1) hmf⟩
  refine PySem.W.callWith_K (h₀ := X.base) I.ok.mod.kin hk (thn (ha.run.run pos pins s σ H _ I hq) fun us s1 ⟨vs, H1, I1, r1, lk, qq⟩ => ⟨I1.kIn, ?_⟩) he hpl
  exact run_fg F hr hgd hb lk I1 r1 qq
theorem de_callP0 {n : Nat} {f : Addr} {fd : FuncData} {ps : List Str} {fs : FS} {x : Str} {pf : Pos} (F : FnG X.prog X.w X.K X.mg X.base n f fd ps (toSp X.K [] fs)) (hmf : MonoF fs) (hr : Room n X.A) (hgd : X.A.guards = some []) (hg : Gl X x) (hm : X.mg x = some (.ref f))
    (hk : PySem.W.keepIn X.K (.ref f) = true) (hb : Binds X.K fd ps []) (hdb : (x == ("__debug__" : Str)) = false := by decide) : DE true p X (.Call (.Name x pf) [] [] pos) (gCallP fs gNil) := by
  refine ⟨⟨fun pins s σ H Q I ⟨B, E, r, M, O, R, q⟩ => ?_⟩, fun r M Q Q' h q => hmf _ _ _ _ _ _ (fun d M' q2 => h _ _ q2) (fun C M' q2 => q2) q⟩
  refine wpAny_Call_Name_kw (ld_glob I hg hm ?_ hdb)
  exact PySem.W.callWith_K0 I.kIn hk (run_fg (us := []) F hr hgd hb R.ps I .nil (callP_pre (ks := []) (vs := []) (ds := []) R trivial q hmf))

/-- a call that may change the memory -/
def slots (O : Own) (b : Addr) : Prop := ∃ i, O b = some (.slot i)
def Bs (B : Addr → Prop) (O : Own) : Addr → Prop := fun b => B b ∨ slots O b
theorem drops_none {b : Addr} : drops O b = none ↔ ∀ a f, O b ≠ some (.fld a f) := by
  unfold drops
  cases h : O b with
  | none => simp
  | some w =>
    cases w with
    | slot i => simp
    | fld a f => simp
theorem av_bs : Av (Bs B O) M (drops O) = Av B M O := by
  funext b
  apply propext
  constructor
  · rintro ((h | ⟨i, h⟩) | h)
    · exact .inl h
    · exact .inr (.inr (by rw [h]; simp))
    · exact .inr (mut_drops b h)
  · rintro (h | h | h)
    · exact .inl (.inl h)
    · exact .inr (.inl h)
    · cases e : O b with
      | none => exact absurd e h
      | some w =>
        cases w with
        | slot i => exact .inl (.inr ⟨i, e⟩)
        | fld a f => exact .inr (.inr (by unfold drops; rw [e]; simp))
/-- the slots' own as they were, the fields' as they are now -/
def back (O O' : Own) : Own := fun b => match O b with
  | some (.slot i) => some (.slot i)
  | _ => O' b
theorem back_slot {b : Addr} {i : Nat} (h : O b = some (.slot i)) : back O O' b = some (.slot i) := by unfold back; rw [h]
theorem back_none {b : Addr} (h : ¬ slots O b) : back O O' b = O' b := by
  unfold back
  cases e : O b with
  | none => rfl
  | some w =>
    cases w with
    | slot i => exact (h ⟨i, e⟩).elim
    | fld a f => rfl
theorem Rep.called (R : Rep X B E σ H r M O) (m : MemOk X.K (Bs B O) H' M' O') (s : Step (Mut M (drops O)) H (Mut M' O') H') : Rep X B E σ H' r M' (back O O') ∧ Step (Mut M O) H (Mut M' (back O O')) H' ∧ Av B M' (back O O') = Av (Bs B O) M' O' := by
  have hav : Av B M' (back O O') = Av (Bs B O) M' O' := by
    funext b
    apply propext
    by_cases hs : slots O b
    · obtain ⟨i, hi⟩ := hs
      exact ⟨fun _ => .inl (.inr ⟨i, hi⟩), fun _ => .inr (.inr (by rw [back_slot hi]; simp))⟩
    · unfold Av Mut Bs
      rw [back_none hs]
      constructor
      · rintro (h | h)
        · exact .inl (.inl h)
        · exact .inr h
      · rintro ((h | h) | h)
        · exact .inl h
        · exact (hs h).elim
        · exact .inr h
  have sl : ∀ {b : Addr} {o : HO}, slots O b → H b = some o → H' b = some o ∧ ¬ Mut M' O' b := fun {b o} hs e => s b o e fun z => by
    obtain ⟨i, hi⟩ := hs
    rcases z with z | z
    · cases q : M b with
      | none => exact z q
      | some mo => have := (R.m.mem b mo q).2.1; rw [hi] at this; cases this
    · unfold drops at z; rw [hi] at z; exact z rfl
  have sm : Step (Mut M O) H (Mut M' (back O O')) H' := fun b o e n => by
    have n1 : ¬ Mut M (drops O) b := fun z => n (mut_drops b z)
    obtain ⟨h1, h2⟩ := s b o e n1
    refine ⟨h1, fun z => ?_⟩
    have hs : ¬ slots O b := fun ⟨i, hi⟩ => n (.inr (by rw [hi]; simp))
    rcases z with z | z
    · exact h2 (.inl z)
    · rw [back_none hs] at z; exact h2 (.inr z)
  have sa : Step (Av B M O) H (Av B M' (back O O')) H' := fun b o e n =>
    have n1 : ¬ B b := fun z => n (.inl z)
    have ⟨h1, h2⟩ := sm b o e fun z => n (.inr z)
    ⟨h1, fun z => z.elim n1 h2⟩
  refine ⟨⟨⟨fun b mo e => ?_, fun b w e => ?_, fun b z => m.btr b (.inl z)⟩, R.len, fun i x e => ?_, R.ent.trans sm, R.sub, R.exc, R.lk, R.xe⟩, sm, hav⟩
  · obtain ⟨h1, h2, h3⟩ := m.mem b mo e
    have hs : ¬ slots O b := fun z => h1 (.inr z)
    refine ⟨fun z => h1 (.inl z), by rw [back_none hs]; exact h2, ?_⟩
    rw [hav]
    refine h3.stepS (Step.refl _ _) (fun _ e => e) fun l f q => ⟨?_, fun _ e => e⟩
    rw [back_none fun z => (m.own l _ q).1 (.inr z)]
    exact q
  · by_cases hs : slots O b
    · obtain ⟨i, hi⟩ := hs
      obtain ⟨h1, h2⟩ := R.m.own b _ hi
      refine ⟨h1, ?_⟩
      exact m.btr b (.inr ⟨i, hi⟩)
    · rw [back_none hs] at e
      exact ⟨fun z => (m.own b w e).1 (.inl z), (m.own b w e).2⟩
  · exact (R.sl i x e).stepS sa sm fun l q => ⟨back_slot q, fun o e => (sl ⟨i, q⟩ e).1⟩
def gCallM (fs : FS) (gs : GA) : GE := fun r M Q => gs r M fun ds M1 => fs ds M1 Q r.ex
def vks (ks : List AK) : Bool := ks.all fun k => match k with
  | .b => false
  | _ => true
theorem argsOkM {A U U' : Addr → Prop} {K : PySem.W.Frag} (hU : ∀ b, U' b → U b) : ∀ {ks : List AK} {vs : List V} {ds : List D}, vks ks = true → ArgsX K A U H ks vs ds → ArgsOk K A U' H ks vs ds
  | [], [], [], _, _ => trivial
  | .v :: _, _ :: _, _ :: _, h, q => ⟨q.1, argsOkM hU (by simpa [vks] using h) q.2⟩
  | .s :: _, _ :: _, _ :: _, h, q => by
    obtain ⟨⟨a, ns, e1, e2, h3⟩, q2⟩ := q
    exact ⟨⟨a, ns, e1, e2, h3.step (step_id fun b _ n z => n (hU b z))⟩, argsOkM hU (by simpa [vks] using h) q2⟩
  | .b :: _, _ :: _, _ :: _, h, _ => by simp [vks] at h
  | [], [], _ :: _, _, h => h.elim
  | [], _ :: _, [], _, h => h.elim
  | [], _ :: _, _ :: _, _, h => h.elim
  | _ :: _, [], [], _, h => h.elim
  | _ :: _, [], _ :: _, _, h => h.elim
  | _ :: _, _ :: _, [], _, h => h.elim
theorem callM_pre {fs : FS} (R : Rep X B E σ H r M O) {vs : List V} {ds : List D} (hk : vks ks = true) (ha : ArgsX X.K (Av B M O) (Mut M O) H ks vs ds) {Q : VK} (h : fs ds M (LE true false X B E σ r H M O Q) r.ex) (hmf : MonoF fs) : toSp X.K ks fs vs H Q (xk E.W) := by
  refine ⟨Bs B O, M, drops O, ds, ?_, drops_flds O, by rw [av_bs]; exact argsOkM (fun b z => mut_drops b z) hk ha, ?_⟩
  · refine ⟨fun b mo e => ?_, fun b w e => ?_, fun b z => ?_⟩
    · obtain ⟨h1, h2, h3⟩ := R.m.mem b mo e
      refine ⟨fun z => z.elim h1 fun ⟨i, hi⟩ => (by rw [hi] at h2; cases h2), by unfold drops; rw [h2], ?_⟩
      rw [av_bs]
      exact h3.stepS (Step.refl _ _) (fun _ e => e) fun l f q => ⟨by unfold drops; rw [q], fun _ e => e⟩
    · unfold drops at e
      split at e
      · rename_i q
        cases e
        obtain ⟨h1, h2⟩ := R.m.own b _ q
        exact ⟨fun z => z.elim h1 fun ⟨i, hi⟩ => (by rw [hi] at q; cases q), h2⟩
      · cases e
    · rcases z with z | ⟨i, hi⟩
      · exact R.m.btr b z
      · exact (R.m.own b _ hi).2
  · refine hmf _ _ _ _ _ _ (fun d M' q v H' O' h1 h2 h3 h4 => ?_) (fun C M' q H' O' h1 h2 h3 => ?_) h
    · obtain ⟨R', s', e'⟩ := R.called h1 h3
      refine q v H' _ R' ⟨fun z => (nomatch z), s'⟩ ?_
      rw [e']
      exact h4
    · obtain ⟨R', s', e'⟩ := R.called h1 h3
      refine ⟨C, rfl, rfl, R.exc C M' H' _ (R'.m.subB R.sub) R'.ent ?_⟩
      rw [← R.xe]
      exact q
theorem de_callM {n : Nat} {f : Addr} {fd : FuncData} {ps : List Str} {fs : FS} {x : Str} {pf : Pos} (F : FnG X.prog X.w X.K X.mg X.base n f fd ps (toSp X.K ks fs)) (hmf : MonoF fs) (hr : Room n X.A) (hgd : X.A.guards = some []) (hg : Gl X x) (hm : X.mg x = some (.ref f))
    (hk : PySem.W.keepIn X.K (.ref f) = true) (hb : Binds X.K fd ps []) (ha : DAk false X ks (e :: es) gs) (hv : vks ks = true := by rfl) (hdb : (x == ("__debug__" : Str)) = false := by decide) (he : starEach (e :: es) X.env = (false, eval e X.env) :: starEach es X.env := by rfl)
    (hpl : (backTo pos (starEach es X.env)).any (·.1) = false := by rfl) : DE true false X (.Call (.Name x pf) (e :: es) [] pos) (gCallM fs gs) := by
  refine ⟨⟨fun pins s σ H Q I ⟨B, E, r, M, O, R, q⟩ => ?_⟩, fun r M Q Q' h q => ha.mono _ _ _ _ (fun ds M1 q1 => hmf _ _ _ _ _ _ (fun d M' q2 => h _ _ q2) (fun C M' q2 => q2) q1) q⟩
  refine wpAny_Call_Name_kw (ld_glob I hg hm ?_ hdb)
  have hq := ha.on R q (Q := fun vs H1 => Passes (L2.CX X.prog X.w) X (xk E.W) ∧ toSp X.K ks fs vs H1 Q (xk E.W)) fun ds M1 vs H1 O1 k1 R1 l1 i1 => ⟨R1.ps, callM_pre R1 hv i1 (hmf _ _ _ _ _ _ (fun d M' q2 => LE.go l1 q2) (fun C M' q2 => q2) k1) hmf⟩
  refine PySem.W.callWith_K (h₀ := X.base) I.ok.mod.kin hk (thn (ha.run.run pos pins s σ H _ I hq) fun us s1 ⟨vs, H1, I1, r1, lk, qq⟩ => ⟨I1.kIn, ?_⟩) he hpl
  exact run_fg F hr hgd hb lk I1 r1 qq
end
end DL

set_option Elab.async false
set_option linter.all false
set_option maxRecDepth 100000
/-! DL14: the law's head over FnG; the world of a top by facts; promises by name; raise; loops by induction. -/
namespace DL
open PySem PySem.Spec PyProof.Rows L2

/-! ### the law's end -/
theorem cx_never {P : Program} {w : World} {outer : List Env} {H : Hp} {s : Shared} {e : Value} {s' : Shared} (h : L2.CX P w outer H s (fun _ _ _ => False) e s') : False := by
  obtain ⟨_, _, _, _, _, _, _, _, _, _, _, _, z⟩ := h
  exact z
/-- the law's def, called behind the top at a heap where only the script may be tracked -/
theorem head_call {P : Program} {w : World} {K : PySem.W.Frag} {mg mb : Str → Option Value} {k : Nat} {fa a : Addr} {fd : FuncData} {x : Str} {sp : Sp} {t : Shared} {us : List Value} {ns : List Int}
    (kin : K.In t.heap) (hg : t.heap.Ns mainGlobals mg) (hbi : t.heap.Ns builtinsNs mb) (hboot : ∀ y : Str, y ≠ "__name__" → mb y = bootBuiltins y) (hlim : t.heap.NoLimit) (hgen : t.gens = #[])
    (hat : t.heap.get? a = some { cls := .type "list", data := .seq us.toArray }) (hin : IntsAre us ns) (hle : ns.length ≤ sizeLine) (room : Room k callerA)
    (F : ∀ base : Heap, K.In base → base.Ns mainGlobals mg → FnG P w K mg base k fa fd [x] sp) (bnd : ∀ (s : Shared) (u : Value), BindsTo s fd ⟨[u], []⟩ [(x, u)])
    (hsp : ∀ H : Hp, Only H → SqL K H a (ns.map V.int) → sp [.ref a] H (fun v _ => v = .bl true) fun _ _ _ => False) :
    codeAny (model P w) callerA (.call (.ref fa) ⟨[.ref a], []⟩) (fun r s' => r = .ok (.ret (.bool true)) ∧ OldK t.heap s'.heap ∧ s'.os = t.os ∧ AllBare s'.gens) t := by
  have hv := vals_ints hin
  have hlen := hin.length
  have go : ∀ H : Hp, Only H → SqL K H a (ns.map V.int) → HOk P w H t.heap → (∀ b, H b ≠ none → b = a) → (H a ≠ none → K.lookup a = none) →
      codeAny (model P w) callerA (.call (.ref fa) ⟨[.ref a], []⟩) (fun r s' => r = .ok (.ret (.bool true)) ∧ OldK t.heap s'.heap ∧ s'.os = t.os ∧ AllBare s'.gens) t := by
    intro H only scr hok onlyA notK
    have down : ∀ {b : Addr} {o : Obj}, t.heap.get? b = some o → H b = none → (hidT t.heap H).get? b = some o := fun h1 h2 => hidT_get h1 h2
    have dictFree : ∀ {b : Addr} {o : Obj} {es : Array DictEntry} {ep : Nat}, t.heap.get? b = some o → o.data = .dict es ep → H b = none := by
      intro b o es ep h1 h2
      cases q : H b with
      | none => rfl
      | some u =>
        obtain rfl : b = a := onlyA b (by rw [q]; simp)
        rw [hat] at h1
        cases h1
        exact nomatch (show Data.seq us.toArray _ = Data.dict es ep from h2)
    have nsDown : ∀ {b : Addr} {m : Str → Option Value}, t.heap.Ns b m → (hidT t.heap H).Ns b m := fun {b m} ⟨o, es, ep, h1, h2, h3⟩ => ⟨o, es, ep, down h1 (dictFree h1 h2), h2, h3⟩
    have kinB : K.In (hidT t.heap H) := fun b o h1 => down (kin b o h1) (by
      cases q : H b with
      | none => rfl
      | some u =>
        obtain rfl : b = a := onlyA b (by rw [q]; simp)
        rw [notK (by rw [q]; simp)] at h1
        cases h1)
    have md : Mod K mg (hidT t.heap H) := ⟨kinB, nsDown hg, ⟨mb, nsDown hbi, hboot⟩, let ⟨mc, q1, q2⟩ := hlim; ⟨mc, nsDown q1, q2⟩⟩
    have env : Env0 P w K mg (hidT t.heap H) callerA [] t H := ⟨rfl, md, fun b o h1 => of_hidT h1, Nat.le_of_eq (hidT_size _ _), trivial, fun b hb => (List.not_mem_nil (show b ∈ ([] : List Addr) from hb)).elim, hok, .of_eq hgen⟩
    refine codeAny_mono ((F _ kinB (nsDown hg)).run callerA [] t H ⟨[.ref a], []⟩ [.ref a] [.ref a] _ _ room rfl env (bnd t (.ref a)) (.cons rfl .nil) (hsp H only scr)) fun r s' h => ?_
    cases r with
    | error e => exact (cx_never h).elim
    | ok fl =>
      cases fl with
      | next => exact False.elim h
      | brk => exact False.elim h
      | cont => exact False.elim h
      | ret u =>
        obtain ⟨v, H', os, bare, un, hok', rv, q⟩ := h
        obtain rfl : v = .bl true := q
        obtain rfl : u = Value.bool true := rv
        refine ⟨rfl, OldK.of_keep fun b o h1 => ?_, os, bare⟩
        cases q : H b with
        | none => exact un.keep b o h1 q (by intro z; exact (List.not_mem_nil (show b ∈ ([] : List Addr) from z)).elim) (by simp)
        | some u =>
          rcases only b with z | ⟨ob, xs, z⟩
          · rw [q] at z
            cases z
          · have z2 := un.frzs b ob _ z
            obtain ⟨q1, _⟩ := hok b _ z
            obtain ⟨q2, _⟩ := hok' b _ z2
            rw [h1] at q1
            cases q1
            exact q2
  cases hk : K.lookup a with
  | some o =>
    have h1 := kin a o hk
    rw [hat] at h1
    cases h1
    exact go (fun _ => none) (fun _ => .inl rfl) (.inr ⟨_, us.toArray, _, hk, rfl, rfl, rfl, by rw [List.size_toArray, hlen]; exact hle, by simpa using hv⟩) (fun b u z => nomatch (show (none : Option HO) = some u from z)) (fun b z => absurd rfl z) fun z => absurd rfl z
  | none =>
    let H1 : Hp := fun b => if b = a then some (.frz { cls := .type "list", data := .seq us.toArray } (.lst (ns.map V.int))) else none
    have h0 : H1 a = some (.frz { cls := .type "list", data := .seq us.toArray } (.lst (ns.map V.int))) := if_pos rfl
    have h2 : ∀ b, b ≠ a → H1 b = none := fun b hb => if_neg hb
    refine go H1 (fun b => ?_) (.inl (.inr ⟨_, h0⟩)) (fun b u z => ?_) (fun b z => ?_) fun _ => hk
    · by_cases hb : b = a
      · subst hb
        exact .inr ⟨_, _, h0⟩
      · exact .inl (h2 b hb)
    · by_cases hb : b = a
      · subst hb
        rw [h0] at z
        cases z
        exact ⟨hat, by rw [List.length_map]; exact hle, us, _, hv, hat⟩
      · rw [h2 b hb] at z
        cases z
    · by_cases hb : b = a
      · exact hb
      · exact absurd (h2 b hb) z

/-- the law over a head by facts -/
theorem walk_ofG {l : PySem.W.OpenLaw} {n k : Nat} {q : Program} {loose : List Str} {XP : (Str → Option Value) → Heap → Prop} {YP : World → Heap → Prop} {d : DefRec} {x : Str}
    (hn : l.most = some n) (hn2 : n ≤ sizeLine) (hdf : d.params.defaults = []) (hr : Room k callerA)
    (F : ∀ (w : World) (mg : Str → Option Value) (fa : Addr) (h : Heap), YP w h → h.Ns mainGlobals mg → mg d.name = some (.ref fa) →
      ∃ (K : PySem.W.Frag) (fd : FuncData) (sp : Sp), K.In h ∧ (∀ (s : Shared) (u : Value), BindsTo s fd ⟨[u], []⟩ [(x, u)]) ∧
        (∀ (H : Hp) (a : Addr) (ns : List Int), ns.length ≤ n → Only H → SqL K H a (ns.map V.int) → sp [.ref a] H (fun v _ => v = .bl true) fun _ _ _ => False) ∧
        ∀ base : Heap, K.In base → base.Ns mainGlobals mg → FnG l.prog w K mg base k fa fd [x] sp) :
    PySem.W.WalkO q loose XP YP l.row.toRowW d [] (fun f vs => PySem.call f vs) := by
  refine Att.attach_call hn hdf fun w s0 s1 mg mb fa o pm cd doc a us ns gr Y _ _ _ hmg hobj hints hlen hg => ?_
  obtain ⟨K, fd, sp, kin, hb, hsp, hF⟩ := F w mg fa _ Y gr.T.g hmg
  exact head_call kin gr.T.g gr.T.b gr.T.builtins gr.T.nolimit hg hobj hints (Nat.le_trans hlen hn2) hr hF hb fun H h1 h2 => hsp H a ns hlen h1 h2
theorem only_scr {K : PySem.W.Frag} {H : Hp} {a : Addr} {ns : List Int} {ks : List AK} {fs : FS} (hO : Only H) (hS : SqL K H a (ns.map V.int))
    (h : fs [.lst (ns.map D.int)] M0 (fun d _ => d = .bl true) fun _ _ => False) (hm : MonoF fs) : toSp K [.s] fs [.ref a] H (fun v _ => v = .bl true) fun _ _ _ => False := by
  refine ⟨fun _ => False, M0, O0, [.lst (ns.map D.int)], ⟨fun a mo e => (nomatch e), fun a w e => (nomatch e), fun a z => z.elim⟩, fun a i z => (nomatch z), ⟨⟨a, ns, rfl, rfl, ?_⟩, trivial⟩, ?_⟩
  · rcases hS with h | h
    · exact .inl ⟨mut0 a, h⟩
    · exact .inr (.inr h)
  · refine hm _ _ _ _ _ _ (fun d M' e v H' O' _ _ _ i => ?_) (fun C M' z => z.elim) h
    subst e
    cases i
    rfl

/-! ### what the top left, by facts -/
structure Wor (fa : List He.Fa) (fn : List He.DefD) (K : PySem.W.Frag) (mg : Str → Option Value) : Prop where
  ex : ∃ h : Heap, K.In h ∧ h.Ns mainGlobals mg
  c : He.SaysD fa fn K
section
variable {fa : List He.Fa} {fn : List He.DefD} {K : PySem.W.Frag} {mg : Str → Option Value}
theorem Wor.free (W : Wor fa fn K mg) (i : Nat) {x : Str} (h : fa[i]? = some (.free x) := by rfl) : mg x = none :=
  let ⟨_, X, G⟩ := W.ex
  He.free_ok X G (W.c.fact i h)
theorem Wor.glo (W : Wor fa fn K mg) (i : Nat) {x : Str} (h : fa[i]? = some (.glo x) := by rfl) : mg x = some (.ref (He.ga K x)) :=
  let ⟨_, X, G⟩ := W.ex
  He.glo_ok X G (W.c.fact i h)
theorem Wor.int (W : Wor fa fn K mg) (i : Nat) {x : Str} {n : Int} (h : fa[i]? = some (.int x n) := by rfl) : ∃ t, mg x = some (.int n t) :=
  let ⟨_, X, G⟩ := W.ex
  He.int_ok X G (W.c.fact i h)
theorem Wor.str (W : Wor fa fn K mg) (i : Nat) {x z : Str} (h : fa[i]? = some (.str x z) := by rfl) : ∃ t, mg x = some (.str z t) :=
  let ⟨_, X, G⟩ := W.ex
  He.str_ok X G (W.c.fact i h)
end
/-- a class of its own over ValueError, that may be raised -/
structure ExCls (K : PySem.W.Frag) (mg : Str → Option Value) (x : Str) : Prop where
  g : mg x = some (.ref (He.ga K x))
  e : PySem.W.excIn K (He.ga K x) He.veBase "ValueError.__new__" = true ∧ PySem.W.keepIn K (.ref (He.ga K x)) = true ∧ PySem.W.subIn K (.ref (He.ga K x)) (.type "BaseException") = some true ∧ PySem.W.typeIn K (.ref (He.ga K x)) = some (.type "type")
theorem Wor.exc {fa : List He.Fa} {fn : List He.DefD} {K : PySem.W.Frag} {mg : Str → Option Value} (W : Wor fa fn K mg) (i : Nat) {x : Str} (h : fa[i]? = some (.glo x) := by rfl) (h2 : fa[i + 1]? = some (.exc x) := by rfl) : ExCls K mg x :=
  ⟨W.glo i h, He.exc_ok (W.c.fact (i + 1) h2)⟩

/-- a def's promise by its name -/
structure Def (P : Program) (w : World) (K : PySem.W.Frag) (mg : Str → Option Value) (base : Heap) (n : Nat) (x : Str) (ps : List Str) (ks : List AK) (fs : FS) : Prop where
  ex : ∃ f fd, FnG P w K mg base n f fd ps (toSp K ks fs) ∧ mg x = some (.ref f) ∧ PySem.W.keepIn K (.ref f) = true ∧ Binds K fd ps []
  mo : MonoF fs
theorem Wor.def_ {fa : List He.Fa} {fn : List He.DefD} {K : PySem.W.Frag} {mg : Str → Option Value} {P : Program} {w : World} {base : Heap} {k : Nat} {ks : List AK} {fs : FS} {N ps : List Str} {g : GS} (W : Wor fa fn K mg) (i : Nat) {x : Str} {st : Stmt}
    (S : FnScope N ps (defScope st)) (h : fn[i]? = some ⟨(x, none), x, x, defArgs st, defBody st, defScope st, [], []⟩ := by rfl) (h2 : fa[i]? = some (.glo x) := by rfl) (hk : ks.length = ps.length := by rfl)
    (hbd : ∀ (kV doc pm : Value) (an : Option Addr) (cdv ct : Value) (us : List Value), us.length = ps.length → bindArgs (PySem.W.fnOf x x (defArgs st) (defBody st) (defScope st) .none kV doc pm an cdv ct) ⟨us, []⟩ = pure (ps.zip us))
    (hmo : MonoF fs)
    (hbody : ∀ (f : Addr) (cdv : Value) (A : Around) (outer : List Env) (s : Shared) (H : Hp) (E : XK), Room k (A.deeper (envOfC x (defScope st) s.heap.objs.size f cdv)) → A.guards = some [] →
      DSs (cxOf (L2.CX P w) P w K mg base N x (defScope st) f cdv A outer s H E) (defBody st) g)
    (hfs : ∀ ds M Q X, fs ds M Q X → ds.length = ks.length → g { nx := fun _ M' => Q .non M', rt := Q } (entry N.length ks ds X) M) : Def P w K mg base (k + 1) x ps ks fs := by
  obtain ⟨fd, F⟩ := W.c.def_ i h
  have hx := W.glo i h2
  have F1 : Fun K x x st (He.ga K x) fd := He5.fun_of F
  exact ⟨⟨_, fd, d_fn F1 S hk (hbody (He.ga K x)) hfs, hx, F1.kp, F1.binds hbd⟩, hmo⟩
/-- the law's def, over every base -/
theorem Wor.law_ {fa : List He.Fa} {fn : List He.DefD} {K : PySem.W.Frag} {mg : Str → Option Value} {P : Program} {w : World} {k : Nat} {ks : List AK} {fs : FS} {N : List Str} {y : Str} {g : GS} (W : Wor fa fn K mg) (i : Nat) {x : Str} {st : Stmt}
    (S : FnScope N [y] (defScope st)) (h : fn[i]? = some ⟨(x, none), x, x, defArgs st, defBody st, defScope st, [], []⟩ := by rfl) (h2 : fa[i]? = some (.glo x) := by rfl) (hk : ks.length = [y].length := by rfl)
    (hbd : ∀ (kV doc pm : Value) (an : Option Addr) (cdv ct : Value) (us : List Value), us.length = [y].length → bindArgs (PySem.W.fnOf x x (defArgs st) (defBody st) (defScope st) .none kV doc pm an cdv ct) ⟨us, []⟩ = pure ([y].zip us))
    (hbody : ∀ (base : Heap) (f : Addr) (cdv : Value) (A : Around) (outer : List Env) (s : Shared) (H : Hp) (E : XK), Room k (A.deeper (envOfC x (defScope st) s.heap.objs.size f cdv)) → A.guards = some [] →
      DSs (cxOf (L2.CX P w) P w K mg base N x (defScope st) f cdv A outer s H E) (defBody st) g)
    (hfs : ∀ ds M Q X, fs ds M Q X → ds.length = ks.length → g { nx := fun _ M' => Q .non M', rt := Q } (entry N.length ks ds X) M) :
    ∃ f fd, mg x = some (.ref f) ∧ (∀ (s : Shared) (u : Value), BindsTo s fd ⟨[u], []⟩ [(y, u)]) ∧ ∀ base : Heap, FnG P w K mg base (k + 1) f fd [y] (toSp K ks fs) := by
  obtain ⟨fd, F⟩ := W.c.def_ i h
  have F1 : Fun K x x st (He.ga K x) fd := He5.fun_of F
  exact ⟨_, fd, W.glo i h2, fun s u => FunD.bindsA (ps := [y]) F hbd s [u] rfl, fun base => d_fn F1 S hk (hbody base (He.ga K x)) hfs⟩
theorem Def.mono {P : Program} {w : World} {K : PySem.W.Frag} {mg : Str → Option Value} {base : Heap} {j n : Nat} {x : Str} {ps : List Str} {ks : List AK} {fs : FS} (D : Def P w K mg base j x ps ks fs) (h : j ≤ n := by decide) : Def P w K mg base n x ps ks fs :=
  let ⟨f, fd, F, q⟩ := D.ex
  ⟨⟨f, fd, F.mono h, q⟩, D.mo⟩
section
variable {X : Cx} {p : Bool} {e : Expr} {es : List Expr} {gs : GA} {pos pf : Pos} {n : Nat} {x : Str} {ps : List Str} {ks : List AK} {fs : FS}
theorem dc_p (F : Def X.prog X.w X.K X.mg X.base n x ps ks fs) (hr : Room n X.A) (hgd : X.A.guards = some []) (ha : DAk p X ks (e :: es) gs) (hg : Gl X x := by rfl) (hdb : (x == ("__debug__" : Str)) = false := by decide)
    (he : starEach (e :: es) X.env = (false, eval e X.env) :: starEach es X.env := by rfl) (hpl : (backTo pos (starEach es X.env)).any (·.1) = false := by rfl) : DE true p X (.Call (.Name x pf) (e :: es) [] pos) (gCallP fs gs) :=
  let ⟨_, _, F1, hm, hk, hb⟩ := F.ex
  de_callP F1 F.mo hr hgd hg hm hk hb ha hdb he hpl
theorem dc_p0 (F : Def X.prog X.w X.K X.mg X.base n x ps [] fs) (hr : Room n X.A) (hgd : X.A.guards = some []) (hg : Gl X x := by rfl) (hdb : (x == ("__debug__" : Str)) = false := by decide) : DE true p X (.Call (.Name x pf) [] [] pos) (gCallP fs gNil) :=
  let ⟨_, _, F1, hm, hk, hb⟩ := F.ex
  de_callP0 F1 F.mo hr hgd hg hm hk hb hdb
theorem dc_m (F : Def X.prog X.w X.K X.mg X.base n x ps ks fs) (hr : Room n X.A) (hgd : X.A.guards = some []) (ha : DAk false X ks (e :: es) gs) (hg : Gl X x := by rfl) (hv : vks ks = true := by rfl) (hdb : (x == ("__debug__" : Str)) = false := by decide)
    (he : starEach (e :: es) X.env = (false, eval e X.env) :: starEach es X.env := by rfl) (hpl : (backTo pos (starEach es X.env)).any (·.1) = false := by rfl) : DE true false X (.Call (.Name x pf) (e :: es) [] pos) (gCallM fs gs) :=
  let ⟨_, _, F1, hm, hk, hb⟩ := F.ex
  de_callM F1 F.mo hr hgd hg hm hk hb ha hv hdb he hpl
/-! ### raise -/
def gRaise (C : Addr) : GS := fun _ r M => r.ex C M
theorem ds_raise {m : Str} {j : Nat} {p1 p2 : Pos} (T : ExCls X.K X.mg x) (hc : X.calm = true := by rfl) (hg : Gl X x := by rfl) (hdb : (x == ("__debug__" : Str)) = false := by decide) :
    DS X (.Raise (some (.Call (.Name x pf) [.Constant (.str m) j p2] [] p1)) none pos) (gRaise (He.ga X.K x)) := by
  refine ⟨⟨fun pins s σ H D I ⟨B, E, r, M, O, R, q⟩ => ?_⟩, fun D D' r M l q => q⟩
  refine (ps_raise (W := fun cls d _ H => xk E.W cls d H) hc R.lk (pmk_own PySem.F.excBase_ValueError T.e.1 T.g T.e.2.1 (raises_own T.e.2.2.1 T.e.2.2.2) hg hdb)).run pins s σ H D I ⟨_, rfl, rfl, R.exc _ M H O (R.m.subB R.sub) R.ent ?_⟩
  rw [← R.xe]
  exact q
end

/-! ### a module's constant -/
theorem dg_int {X : Cx} {p : Bool} {x : Str} {n : Int} {pos : Pos} (h : ∃ t, X.mg x = some (.int n t)) (hg : Gl X x := by rfl) (hd : (x == ("__debug__" : Str)) = false := by decide) : DE true p X (.Name x pos) (gC (.int n)) :=
  let ⟨t, e⟩ := h
  de_glob (v := .int n) hg e ⟨t, rfl⟩ (fun _ _ => .int n) hd

/-! ### loops, by induction -/
theorem loop_ind {gt : GG} {gb : GS} {D : DEnds} (I : List DL.D → Fr → Mem → Prop) (h0 : ∀ r M, I [] r M → D.nx r M)
    (h1 : ∀ d ds r M, (∀ r M, I ds r M → loopD gt gb ds D r M) → I (d :: ds) r M → gt d r M fun r' M' => gb { D with nx := loopD gt gb ds D, ct := loopD gt gb ds D, bk := D.nx } r' M') :
    ∀ ds r M, I ds r M → loopD gt gb ds D r M
  | [], r, M, h => h0 r M h
  | d :: ds, r, M, h => h1 d ds r M (loop_ind I h0 h1 ds) h
theorem lc_ind {gt : GG} {gtt : GT} {ge : GE} {r : Fr} {Q : List D → Mem → Prop} (I : List D → List D → Mem → Prop) (h0 : ∀ acc M, I [] acc M → Q acc M)
    (h1 : ∀ d ds acc M, (∀ acc M, I ds acc M → lcD gt gtt ge r ds acc M Q) → I (d :: ds) acc M → gt d r M fun r1 M1 => gtt r1 M1 fun b M2 => if b = true then ge r1 M2 fun x M3 => acc.length < sizeLine ∧ lcD gt gtt ge r ds (acc ++ [x]) M3 Q else lcD gt gtt ge r ds acc M2 Q) :
    ∀ ds acc M, I ds acc M → lcD gt gtt ge r ds acc M Q
  | [], acc, M, h => h0 acc M h
  | d :: ds, acc, M, h => h1 d ds acc M (lc_ind I h0 h1 ds) h
end DL

set_option Elab.async false
set_option linter.all false
set_option maxRecDepth 100000
/-! DL15: dicts in memory; displays; the drawing's state opened and closed. -/
namespace DL
open PySem PySem.Spec PyProof.Rows L2

/-! ### tables of data -/
def valD (kds : List (Key × D)) (k : Key) : Option D := (kds.find? fun kv => decide (kv.1 = k)).map (·.2)
def putD (kds : List (Key × D)) (k : Key) (d : D) : List (Key × D) :=
  if (kds.any fun kv => decide (kv.1 = k)) = true then kds.map (fun kv => if kv.1 = k then (kv.1, d) else kv) else kds ++ [(k, d)]
def mergeD (kds more : List (Key × D)) : List (Key × D) := more.foldl (fun acc kv => putD acc kv.1 kv.2) kds
def keyD : D → Option Key
  | .int i => some (.inl i)
  | .str x => some (.inr x)
  | _ => none
section
variable {K : PySem.W.Frag} {A : Addr → Prop} {H : Hp}
theorem IsK.val {k : Key} : ∀ {kvs : List (Key × V)} {kds : List (Key × D)}, IsK K A H kvs kds → (∀ d, valD kds k = some d → ∃ v, valV kvs k = some v ∧ Is K A H v d) ∧ (valD kds k = none → valV kvs k = none)
  | _, _, .nil => ⟨fun d e => (by simp [valD] at e), fun _ => rfl⟩
  | _, _, .cons (k := j) (v := v) (d := d) (vs := vs) (ds := ds) h t => by
    obtain ⟨h1, h2⟩ := IsK.val (k := k) t
    by_cases e : j = k
    · subst e
      have e1 : valD ((j, d) :: ds) j = some d := by simp [valD, List.find?_cons]
      have e2 : valV ((j, v) :: vs) j = some v := valV_pos rfl
      rw [e1, e2]
      exact ⟨fun d' q => by cases q; exact ⟨v, rfl, h⟩, fun q => by cases q⟩
    · have e1 : valD ((j, d) :: ds) k = valD ds k := by simp [valD, List.find?_cons, e]
      have e2 : valV ((j, v) :: vs) k = valV vs k := valV_neg e
      rw [e1, e2]
      exact ⟨h1, h2⟩
theorem IsK.any {k : Key} : ∀ {kvs : List (Key × V)} {kds : List (Key × D)}, IsK K A H kvs kds → (kvs.any fun kv => decide (kv.1 = k)) = kds.any fun kv => decide (kv.1 = k)
  | _, _, .nil => rfl
  | _, _, .cons h t => by rw [List.any_cons, List.any_cons, IsK.any t]
theorem IsK.map {k : Key} {v : V} {d : D} (hv : Is K A H v d) : ∀ {kvs : List (Key × V)} {kds : List (Key × D)}, IsK K A H kvs kds → IsK K A H (kvs.map fun kv => if kv.1 = k then (kv.1, v) else kv) (kds.map fun kv => if kv.1 = k then (kv.1, d) else kv)
  | _, _, .nil => .nil
  | _, _, .cons (k := j) h t => by
    rw [List.map_cons, List.map_cons]
    by_cases e : j = k
    · subst e
      rw [if_pos rfl, if_pos rfl]
      exact .cons hv (IsK.map hv t)
    · rw [if_neg e, if_neg e]
      exact .cons h (IsK.map hv t)
theorem IsK.append : ∀ {kvs : List (Key × V)} {kds : List (Key × D)} {kvs' : List (Key × V)} {kds' : List (Key × D)}, IsK K A H kvs kds → IsK K A H kvs' kds' → IsK K A H (kvs ++ kvs') (kds ++ kds')
  | _, _, _, _, .nil, h => h
  | _, _, _, _, .cons h t, q => .cons h (IsK.append t q)
theorem IsK.put {k : Key} {v : V} {d : D} (hv : Is K A H v d) {kvs : List (Key × V)} {kds : List (Key × D)} (h : IsK K A H kvs kds) : IsK K A H (putK kvs k v) (putD kds k d) := by
  unfold putK putD
  rw [h.any (k := k)]
  split
  · exact h.map hv
  · exact h.append (.cons hv .nil)
theorem IsK.merge {more : List (Key × V)} {mds : List (Key × D)} (q : IsK K A H more mds) : ∀ {kvs : List (Key × V)} {kds : List (Key × D)}, IsK K A H kvs kds → IsK K A H (mergeK kvs more) (mergeD kds mds) :=
  match q with
  | .nil => fun h => h
  | .cons q t => fun h => IsK.merge t (h.put q)
theorem IsK.len : ∀ {kvs : List (Key × V)} {kds : List (Key × D)}, IsK K A H kvs kds → kvs.length = kds.length
  | _, _, .nil => rfl
  | _, _, .cons h t => congrArg (· + 1) (IsK.len t)
theorem keyD_kV {v : V} {d : D} {k : Key} (e : keyD d = some k) (h : Is K A H v d) : v = kV k := by
  cases h <;> simp only [keyD, Option.some.injEq, reduceCtorEq] at e
  · subst e; rfl
  · subst e; rfl
end

section
variable {X : Cx} {w p w1 w2 : Bool} {e a b c : Expr} {es : List Expr} {g ga gb gc : GE} {gf : GF} {gs : GA} {B : Addr → Prop} {E : En} {σ : L2.St} {H H' : Hp} {r : Fr} {M M' : Mem} {O O' : Own} {pos pos' : Pos} {l : Addr}
/-! ### memory changed in place -/
theorem mut_mup {m : MO} (hm : M l ≠ none) : Mut (mup M l m) O = Mut M O := by
  funext b
  apply propext
  unfold Mut
  by_cases h : b = l
  · subst h; rw [mup_same]; simp [hm]
  · rw [mup_ne h]
theorem av_mup {m : MO} (hm : M l ≠ none) : Av B (mup M l m) O = Av B M O := by
  funext b
  unfold Av
  rw [mut_mup hm]
theorem Rep.mutM (R : Rep X B E σ H r M O) {u : HO} {m m' : MO} (hm : M l = some m) (hu : MOk X.K (Av B M O) (upd H l u) O l m') :
    Rep X B E σ (upd H l u) r (mup M l m') O ∧ Step (Mut M O) H (Mut (mup M l m') O) (upd H l u) := by
  have nm : M l ≠ none := by rw [hm]; simp
  obtain ⟨nB, nO, _⟩ := R.m.mem l m hm
  have mA : Mut M O l := .inl nm
  have keep : ∀ {b : Addr} {o : HO}, b ≠ l → H b = some o → upd H l u b = some o := fun {b o} h e => by rw [upd_ne h]; exact e
  have s : ∀ {A : Addr → Prop}, A l → Step A H A (upd H l u) := fun hA b o e nb => ⟨keep (fun z => nb (by rw [z]; exact hA)) e, nb⟩
  have nown : ∀ {b : Addr} {w : Ow}, O b = some w → b ≠ l := fun {b w} e z => by subst z; rw [nO] at e; cases e
  refine ⟨⟨⟨fun b mo e => ?_, fun b w e => ?_, fun b z => ?_⟩, R.len, fun j sl e => ?_, ?_, R.sub, R.exc, R.lk, R.xe⟩, ?_⟩
  · rw [av_mup nm]
    by_cases hb : b = l
    · subst hb
      rw [mup_same] at e
      cases e
      exact ⟨nB, nO, hu⟩
    · rw [mup_ne hb] at e
      obtain ⟨h1, h2, h3⟩ := R.m.mem b mo e
      exact ⟨h1, h2, h3.stepS (s (.inr mA)) (fun o e => keep hb e) fun l' f q => ⟨q, fun o e => keep (nown q) e⟩⟩
  · obtain ⟨h1, h2⟩ := R.m.own b w e
    refine ⟨h1, ?_⟩
    rw [upd_ne (nown e)]
    exact h2
  · have q := R.m.btr b z
    rw [upd_ne (fun y => nB (by rw [← y]; exact z))]
    exact q
  · show SlU X.K (Av B (mup M l m') O) (Mut (mup M l m') O) O (upd H l u) j _ sl
    rw [av_mup nm, mut_mup nm]
    exact (R.sl j sl e).stepS (s (.inr mA)) (s mA) fun l' q => ⟨q, fun o e => keep (nown q) e⟩
  · rw [mut_mup nm]
    exact R.ent.trans (s mA)
  · rw [mut_mup nm]
    exact s mA
/-- d[k], d in memory (or data) -/
def gMGet (ga gb : GE) : GE := fun r M Q => ga r M fun d M1 => gb r M1 fun e M2 => match d, keyD e with
  | .ref l, some k => (match M2 l with
    | some (.om (.dic kds)) => (match valD kds k with
      | some v => Q v M2
      | none => False)
    | _ => False)
  | .dic kds, some k => (match valD kds k with
    | some v => Q v M2
    | none => False)
  | _, _ => False
theorem de_mget (hu : X.A.units + 1 < cLine) (ha : DE true p X a ga) (hb : DE true p X b gb) (hs : NoSl b := by intro _ _; rfl) : DE true p X (.Subscript a b pos) (gMGet ga gb) := by
  refine ⟨peI (pe_dget hu ha.run hb.run hs) fun σ H Q ⟨B, E, r, M, O, R, q⟩ => ?_, fun r M Q Q' h q => ha.mono _ _ _ _ (fun d M1 q1 => hb.mono _ _ _ _ (fun e M2 q2 => ?_) q1) q⟩
  · refine ha.on R q fun d M1 v H1 O1 k1 R1 l1 i1 => ?_
    refine hb.on R1 k1 fun e M2 u H2 O2 k2 R2 l2 i2 => ?_
    have i1' : Is X.K (Av B M2 O2) H2 v d := Is.step l2.avs i1
    have i2' : Is X.K (Av B M2 O2) H2 u e := i2
    split at k2
    · rename_i l k ek
      cases i1'
      have ku := keyD_kV ek i2'
      subst ku
      split at k2
      · rename_i kds em
        obtain ⟨_, _, kvs, e1, e2⟩ := R2.m.mem _ _ em
        split at k2
        · rename_i v ev
          obtain ⟨x, f1, f2⟩ := (e2.val (k := k)).1 v ev
          exact ⟨_, x, rfl, .inl ⟨kvs, k, .inl e1, rfl, f1.symm⟩, k2 x H2 O2 R2 (l1.trans l2) f2⟩
        · exact k2.elim
      · exact k2.elim
    · rename_i kds k ek
      have ku := keyD_kV ek i2'
      subst ku
      split at k2
      · rename_i v ev
        cases i1' with
        | @dic l kvs _ e1 e2 =>
          obtain ⟨x, f1, f2⟩ := (e2.val (k := k)).1 v ev
          exact ⟨_, x, rfl, .inl ⟨kvs, k, .inr e1.2, rfl, f1.symm⟩, k2 x H2 O2 R2 (l1.trans l2) f2⟩
      · exact k2.elim
    · exact k2.elim
  · split at q2
    · split at q2
      · split at q2
        · exact h _ _ q2
        · exact q2
      · exact q2
    · split at q2
      · exact h _ _ q2
      · exact q2
    · exact q2
/-- d[k] = v, d in memory -/
def gMPut (ga gb gc : GE) : GS := fun D r M => gc r M fun v M1 => ga r M1 fun d M2 => gb r M2 fun e M3 => match d, keyD e with
  | .ref l, some k => (match M3 l with
    | some (.om (.dic kds)) => kds.length < sizeLine ∧ D.nx r (mup M3 l (.om (.dic (putD kds k v))))
    | _ => False)
  | _, _ => False
theorem ds_mput (hu : X.A.units + 1 < cLine) (ha : DE true p X a ga) (hb : DE true p X b gb) (hc : DE true p X c gc) (hs : swapsWith c (some (.Subscript a b pos')) pos.line X.env = pure false := by rfl) : DS X (.Assign [.Subscript a b pos'] c pos) (gMPut ga gb gc) := by
  refine ⟨psI (ps_dput hu ha.run hb.run hc.run hs) fun D σ H ⟨B, E, r, M, O, R, q⟩ => ?_, fun D D' r M l q => hc.mono _ _ _ _ (fun v M1 q1 => ha.mono _ _ _ _ (fun d M2 q2 => hb.mono _ _ _ _ (fun e M3 q3 => ?_) q2) q1) q⟩
  · refine hc.on R q fun z M1 x H1 O1 k1 R1 l1 i1 => ?_
    refine ha.on R1 k1 fun d M2 v H2 O2 k2 R2 l2 i2 => ?_
    refine hb.on R2 k2 fun e M3 u H3 O3 k3 R3 l3 i3 => ?_
    have i1' : Is X.K (Av B M3 O3) H3 x z := Is.step (l2.trans l3).avs i1
    have i2' : Is X.K (Av B M3 O3) H3 v d := Is.step l3.avs i2
    have i3' : Is X.K (Av B M3 O3) H3 u e := i3
    split at k3
    · rename_i l k ek
      cases i2'
      have ku := keyD_kV ek i3'
      subst ku
      split at k3
      · rename_i kds em
        obtain ⟨_, _, kvs, e1, e2⟩ := R3.m.mem _ _ em
        refine ⟨_, _, rfl, .inl ⟨kvs, k, e1, rfl, by rw [e2.len]; exact k3.1, rfl⟩, ?_⟩
        refine k3.2 _ _ O3 (R3.mutM (m' := .om (.dic (putD kds k z))) em ⟨putK kvs k x, upd_same, ?_⟩).1
        refine IsK.step (fun b o eb nb => ⟨?_, nb⟩) (e2.put i1')
        rw [upd_ne fun z => nb (by rw [z]; exact .inr (.inl (by rw [em]; simp)))]
        exact eb
      · exact k3.elim
    · exact k3.elim
  · split at q3
    · split at q3
      · exact ⟨q3.1, l.nx _ _ q3.2⟩
      · exact q3
    · exact q3

/-! ### displays -/
abbrev GPs := Fr → Mem → (List (Key × D) → Mem → Prop) → Prop
structure DPs (p : Bool) (X : Cx) (pos : Pos) (keys : List (Option Expr)) (values : List Expr) (g : GPs) : Prop where
  ex : ∃ trs, PPs X pos keys values trs ∧ ∀ B E σ H r M O k Q, Rep X B E σ H r M O → g r M k →
    (∀ kds M1 H1 O1 kvs, k kds M1 → Rep X B E σ H1 r M1 O1 → Rl p M O H M1 O1 H1 → IsK X.K (Av B M1 O1) H1 kvs kds → Q (kvs.map fun kv => (kV kv.1, kv.2)) H1) → tPairs trs σ H Q
  mono : ∀ r M Q Q', (∀ d M', Q d M' → Q' d M') → g r M Q → g r M Q'
  len : ∀ r M Q, g r M Q → g r M fun ds M1 => ds.length = keys.length ∧ Q ds M1
def gPnil : GPs := fun r M Q => Q [] M
def gPcons (x : Str) (g : GE) (gs : GPs) : GPs := fun r M Q => g r M fun d M1 => gs r M1 fun kds M2 => Q ((.inr x, d) :: kds) M2
theorem dps_nil : DPs p X pos [] [] gPnil := ⟨⟨[], pps_nil, fun B E σ H r M O k Q R q h => h [] M H O [] q R Rl.refl .nil⟩, fun r M Q Q' h q => h _ _ q, fun r M Q q => ⟨rfl, q⟩⟩
theorem dps_cons {x : Str} {j : Nat} {kp : Pos} {ks : List (Option Expr)} {gp : GPs} (ha : DE true p X a ga) (hr : DPs p X pos ks es gp) : DPs p X pos (some (.Constant (.str x) j kp) :: ks) (a :: es) (gPcons x ga gp) := by
  obtain ⟨trs, h1, h2⟩ := hr.ex
  refine ⟨⟨_, pps_cons (pe_str (pos := kp)) ha.run h1, fun B E σ H r M O k Q R q h => ?_⟩, fun r M Q Q' h q => ha.mono _ _ _ _ (fun d M1 q1 => hr.mono _ _ _ _ (fun kds M2 q2 => h _ _ q2) q1) q,
    fun r M Q q => ha.mono _ _ _ _ (fun d M1 q1 => hr.mono _ _ _ _ (fun kds M2 q2 => ⟨congrArg (· + 1) q2.1, q2.2⟩) (hr.len _ _ _ q1)) q⟩
  refine ha.on R q fun d M1 v H1 O1 k1 R1 l1 i1 => ?_
  refine h2 B E σ H1 r M1 O1 _ _ R1 k1 fun kds M2 H2 O2 kvs k2 R2 l2 i2 => ?_
  exact h ((.inr x, d) :: kds) M2 H2 O2 ((.inr x, v) :: kvs) k2 R2 (l1.trans l2) (.cons (Is.step l2.avs i1) i2)
def gDisp (gp : GPs) : GF := fun r M Q => gp r M fun kds M1 => Q (.dic (mergeD [] kds)) M1
theorem df_disp {keys : List (Option Expr)} {gp : GPs} (h : DPs p X pos keys es gp) (hall : keys.all (·.isSome) = true := by rfl) (hl : keys.length = es.length := by rfl) (h0 : keys ≠ [] := by simp) (h15 : keys.length ≤ 15 := by decide) : DF p X (.Dict keys es pos) (gDisp gp) := by
  obtain ⟨trs, h1, h2⟩ := h.ex
  refine ⟨peI (pe_disp h1 hall hl h0 h15) fun σ H Q ⟨B, E, r, M, O, R, q⟩ => ?_, fun r M Q Q' hh q => h.mono r M _ _ (fun kds M1 q1 => hh _ _ q1) q⟩
  intro a n
  have N := New.of R n (o := .dK [])
  refine h2 (Bp B a) E σ (upd H a (.dK [])) r M O _ _ N.rep (h.len _ _ _ q) fun kds M1 H1 O1 kvs k1 R1 l1 i1 => ?_
  have eb : H1 a = some (.dK []) := (l1.2 a _ upd_same fun z => N.nav (.inr z)).1
  have N1 : New X B E σ H1 r M1 O1 a := N.next (l := l1) R1 (by rw [upd_same]; simp)
  refine ⟨eb, kvs, rfl, by rw [i1.len, k1.1]; exact h15, ?_⟩
  have s1 : Step (Up (Av B M1 O1) a) H1 (Up (Av B M1 O1) a) (upd H1 a (.dK (mergeK [] kvs))) := fun b o e nb => ⟨by rw [upd_ne (fun z => nb (.inr z))]; exact e, nb⟩
  have s2 : Step (Up (Mut M1 O1) a) H1 (Up (Mut M1 O1) a) (upd H1 a (.dK (mergeK [] kvs))) := fun b o e nb => ⟨by rw [upd_ne (fun z => nb (.inr z))]; exact e, nb⟩
  have nOM : ∀ b, Mut M1 O1 b → b ≠ a := fun b z y => N1.nav (.inr (by rw [← y]; exact z))
  have keep : ∀ {b : Addr} {o : HO}, b ≠ a → H1 b = some o → upd H1 a (.dK (mergeK [] kvs)) b = some o := fun {b o} h e => by rw [upd_ne h]; exact e
  have N2 : New X B E σ (upd H1 a (.dK (mergeK [] kvs))) r M1 O1 a := by
    refine ⟨⟨fun b mo e => ?_, fun b w e => ?_, fun b z => ?_⟩, N1.len, fun i sl e => (N1.sl i sl e).stepS s1 s2 fun l q => ⟨q, fun o e => keep (nOM l (.inr (by rw [q]; simp))) e⟩, N1.ent.trans s2, N1.sub, N1.exc, N1.lk, N1.xe, N1.nav⟩
    · obtain ⟨f1, f2, f3⟩ := N1.m.mem b mo e
      refine ⟨f1, f2, ?_⟩
      rw [av_up] at f3 ⊢
      exact f3.stepS s1 (fun o e => keep (nOM b (.inl (by rw [‹M1 b = some mo›]; simp))) e) fun l f q => ⟨q, fun o e => keep (nOM l (.inr (by rw [q]; simp))) e⟩
    · obtain ⟨f1, f2⟩ := N1.m.own b w e
      refine ⟨f1, ?_⟩
      rw [upd_ne (nOM b (.inr (by rw [e]; simp)))]
      exact f2
    · have f := N1.m.btr b z
      by_cases hb : b = a
      · rw [hb, upd_same]; simp
      · rw [upd_ne hb]; exact f
  refine k1.2 a _ O1 N2 ?_ ⟨mergeK [] kvs, upd_same, ?_⟩
  · refine ⟨fun hp => ?_, ?_⟩
    · obtain ⟨e1, e2, e3⟩ := l1.1 hp
      refine ⟨e1, e2, fun b o e => ?_⟩
      have nb : b ≠ a := ne_of_none e n
      rw [upd_ne nb]
      exact e3 b o (by rw [upd_ne nb]; exact e)
    · intro b o e nb
      have ne : b ≠ a := ne_of_none e n
      have f := l1.2 b o (by rw [upd_ne ne]; exact e) nb
      exact ⟨by rw [upd_ne ne]; exact f.1, f.2⟩
  · have i2 := i1.merge (kvs := []) (kds := []) .nil
    rw [av_up] at i2
    exact i2.step s1

/-! ### new things in memory -/
theorem av_mupN {m : MO} : Av B (mup M l m) O = Up (Av B M O) l := by
  funext b
  apply propext
  unfold Av Mut Up
  by_cases h : b = l
  · subst h; rw [mup_same]; simp
  · rw [mup_ne h]; simp [h, Av, Mut]
theorem mut_mupN {m : MO} : Mut (mup M l m) O = Up (Mut M O) l := by
  funext b
  apply propext
  unfold Mut Up
  by_cases h : b = l
  · subst h; rw [mup_same]; simp
  · rw [mup_ne h]; simp [h, Mut]
theorem New.toMem (N : New X B E σ H r M O l) {m : MO} (hm : MOk X.K (Up (Av B M O) l) H O l m) : Rep X B E σ H r (mup M l m) O := by
  have nO : O l = none := by
    cases e : O l with
    | none => rfl
    | some w => exact (N.nav (.inr (.inr (by rw [e]; simp)))).elim
  refine ⟨⟨fun b mo e => ?_, fun b w e => ?_, fun b z => N.m.btr b (.inl z)⟩, N.len, fun j sl e => ?_, ?_, N.sub, N.exc, N.lk, N.xe⟩
  · rw [av_mupN]
    by_cases hb : b = l
    · subst hb
      rw [mup_same] at e
      cases e
      exact ⟨fun z => N.nav (.inl z), nO, hm⟩
    · rw [mup_ne hb] at e
      obtain ⟨h1, h2, h3⟩ := N.m.mem b mo e
      rw [av_up] at h3
      exact ⟨fun z => h1 (.inl z), h2, h3⟩
  · obtain ⟨h1, h2⟩ := N.m.own b w e
    exact ⟨fun z => h1 (.inl z), h2⟩
  · show SlU X.K (Av B (mup M l m) O) (Mut (mup M l m) O) O H j _ sl
    rw [av_mupN, mut_mupN]
    exact N.sl j sl e
  · rw [mut_mupN]
    exact N.ent
def gRetM (gf : GF) : GS := fun D r M => gf r M fun m M1 => ∀ a, M1 a = none → D.rt (.ref a) (mup M1 a (.om m))
theorem New.mnone (N : New X B E σ H r M O l) : M l = none := by
  cases e : M l with
  | none => rfl
  | some w => exact (N.nav (.inr (.inl (by rw [e]; simp)))).elim
theorem ds_retM (he : DF p X e gf) : DS X (.Return (some e) pos) (gRetM gf) := by
  refine ⟨psI (ps_ret he.run) fun D σ H ⟨B, E, r, M, O, R, q⟩ => ?_, fun D D' r M l q => he.mono _ _ _ _ (fun m M1 q1 a h => l.rt _ _ (q1 a h)) q⟩
  refine he.on R q fun m M1 a H1 O1 k1 N1 l1 i1 => ?_
  have R1 := N1.toMem (m := .om m) i1
  exact k1 a N1.mnone (.ref a) H1 O1 R1.m R1.ent (.ref a)
def gSetM (i : Nat) (gf : GF) : GS := fun D r M => gf r M fun m M1 => ∀ a, M1 a = none → D.nx (r.set i (.v (.ref a))) (mup M1 a (.om m))
theorem ds_setM (i : Nat) {x : Str} {px : Pos} (hN : X.N.Nodup) (he : DF p X e gf) (hi : X.N[i]? = some x := by rfl) (hx : Loc X.env.scope x := by first | exact Or.inl rfl | exact Or.inr rfl) (hs : swapsWith e (some (.Name x px)) pos.line X.env = pure false := by rfl)
    (hf : X.fn x = true ∨ X.env.scope.names.lookup x = some .local := by first | exact .inl rfl | exact .inr rfl | assumption) : DS X (.Assign [.Name x px] e pos) (gSetM i gf) := by
  refine ⟨psI (ps_set hN hi hx he.run hs hf) fun D σ H ⟨B, E, r, M, O, R, q⟩ => ?_, fun D D' r M l q => he.mono _ _ _ _ (fun d M1 q1 a h => l.nx _ _ (q1 a h)) q⟩
  exact he.on R q (Q := fun x H1 => D.nx (σ.set i (some x)) H1) fun m M1 a H1 O1 k1 N1 l1 i1 => k1 a N1.mnone _ H1 O1 ((N1.toMem (m := .om m) i1).setv i (.ref a))
end

/-! ### the drawing's state -/
theorem st_open {K : PySem.W.Frag} {B : Addr → Prop} {H : Hp} {M : Mem} {O : Own} {a : Addr} (m : MemOk K B H M O) (h : M a = some .st) : ∃ kds, StOk kds ∧ MemOk K B H (mup M a (.om (.dic kds))) O := by
  have nm : M a ≠ none := by rw [h]; simp
  obtain ⟨h1, h2, kds, h3, h4⟩ := m.mem a _ h
  refine ⟨kds, h3, fun b mo e => ?_, m.own, m.btr⟩
  rw [av_mup nm]
  by_cases hb : b = a
  · subst hb
    rw [mup_same] at e
    cases e
    exact ⟨h1, h2, h4⟩
  · rw [mup_ne hb] at e
    exact m.mem b mo e
theorem st_close {K : PySem.W.Frag} {B : Addr → Prop} {H : Hp} {M : Mem} {O : Own} {a : Addr} {kds : List (Key × D)} (m : MemOk K B H (mup M a (.om (.dic kds))) O) (h : StOk kds) : MemOk K B H (mup M a .st) O := by
  have e2 : mup M a .st = mup (mup M a (.om (.dic kds))) a .st := mup_mup.symm
  rw [e2]
  have nm : (mup M a (.om (.dic kds))) a ≠ none := by rw [mup_same]; simp
  obtain ⟨h1, h2, h4⟩ := m.mem a _ mup_same
  refine ⟨fun b mo e => ?_, m.own, m.btr⟩
  rw [av_mup nm]
  by_cases hb : b = a
  · subst hb
    rw [mup_same] at e
    cases e
    exact ⟨h1, h2, kds, h, h4⟩
  · rw [mup_ne hb] at e
    exact m.mem b mo e
end DL

set_option Elab.async false
set_option linter.all false
set_option maxRecDepth 100000
/-! DL16: more that is walked: a list or a tuple, enumerate, zip, reversed; an item stored. -/
namespace PySem
open Sem (wp)
/-- enumerate(v), v begun by o -/
theorem dl_enumerate_new {v : Value} {o : Obj} {Hh : Heap → Prop} (B : Begins v o Hh) :
    Meets (Builtin.«enumerate.__new__» ⟨[.type "enumerate", v], []⟩) (fun _ R s => Hh s.heap ∧ R (.ok (.ret (.ref (s.heap.push o).objs.size)))
      { s with heap := (s.heap.push o).push { cls := .type "enumerate", data := .fields #[.none, .bool false, .ref s.heap.objs.size, rawInt 0, .none, .none] } }) :=
  .of_wp fun prog w A R s q => by
    obtain ⟨hp, g, d, tk, os⟩ := s
    obtain ⟨q1, q2⟩ := q
    have hsub := sub_enumerate
    have it : ∀ {A' : Around} {E Q : Value → Shared → Prop}, Q (.ref hp.objs.size) ⟨hp.push o, g, d, tk, os⟩ → wpAny (model prog w) A' (pyIter v) Q E ⟨hp, g, d, tk, os⟩ := fun z => B.iter prog w _ _ ⟨hp, g, d, tk, os⟩ _ q1 z
    wp_walk using it
    refine wpAny_stack_any fun st => wpAny_pure ?_
    split
    · rename_i c _ _ _ _ _
      cases (c == Value.type "enumerate") <;> (wp_walk using it; exact ⟨_, rfl, q2⟩)
    · wp_walk using it
      exact ⟨_, rfl, q2⟩
theorem dl_call_enumerate {prog : Program} {w : World} {A : Around} {E : Value → Shared → Prop} {s : Shared} {v : Value} {o : Obj} {Hh : Heap → Prop} {Q : Value → Shared → Prop} (B : Begins v o Hh) (h1 : Hh s.heap)
    (h : ∀ h', IsEnum h' (s.heap.objs.size + 1) s.heap.objs.size 0 .none → h'.get? s.heap.objs.size = some o → (∀ b ob, s.heap.get? b = some ob → h'.get? b = some ob) → Q (.ref (s.heap.objs.size + 1)) { s with heap := h' }) :
    wpAny (model prog w) A (call (.type "enumerate") [v]) Q E s := by
  refine callType_new F.called_enumerate (by decide) (F.typeCall_enumerate_1 _) (F.newCall_enumerate_1 _) (fun ob => F.args_object_init_2 ob _) F.entry_enumerate_new (dl_enumerate_new B) ⟨h1, ?_⟩
  have hz : (s.heap.push o).objs.size = s.heap.objs.size + 1 := Heap.size_push ..
  show _ ∧ _
  rw [hz]
  have he := Heap.get?_push_size (s.heap.push o) (o := { cls := .type "enumerate", data := .fields #[.none, .bool false, .ref s.heap.objs.size, rawInt 0, .none, .none] }) rfl
  rw [hz] at he
  exact ⟨⟨_, he, rfl⟩, h _ he (Heap.get?_push_of_some _ (Heap.get?_push_size _ B.free)) fun b ob x => Heap.get?_push_of_some _ (Heap.get?_push_of_some _ x)⟩
theorem dl_draws_tuple {prog : Program} {w : World} {A : Around} (hh : A.handled = none) (it l : Addr) (hne : l ≠ it) (items : Array Value) :
    Draws prog w A it [it, l] items.size (fun i v => items[i]? = some v) (fun i h => h.IsTupleIter it l i ∧ h.IsTuple l items) where
  live := fun _ _ ⟨⟨o, ho, _⟩, _⟩ => ⟨o, ho⟩
  frame := fun _ _ _ ⟨s1, s2⟩ k => ⟨s1.at fun o e => k it (by simp) o e, s2.at fun o e => k l (by simp) o e⟩
  item := fun i s Q E hi ⟨s1, s2⟩ hQ =>
    RZ.nextOf_tuple_item s1 s2 (x := items[i]) (by simp [hi]) fun h' z1 z2 => hQ _ h' s.toks (by simp [hi]) ⟨z1, s2.extBut z2.extBut hne⟩ z2
  done := fun s Q E ⟨s1, s2⟩ hE => RZ.nextOf_tuple_end hh s1 s2 (by simp) hE
end PySem
namespace DL
open PySem PySem.Spec PyProof.Rows L2

/-! ### enumerate(tuple) -/
def IteT (K : PySem.W.Frag) (a : Addr) : It where
  go := fun i H => ∃ (xs : List V) (x : V), SqT K H a xs ∧ xs[i]? = some x
  yld := fun i H v H' => ∃ T o x, v = .ref T ∧ o.dict = none ∧ H T = none ∧ H' = upd H T (.frz o (.tup [.int (i : Nat), x])) ∧ ∀ xs, SqT K H a xs → xs[i]? = some x
  stop := fun i H => ∃ xs : List V, SqT K H a xs ∧ xs.length ≤ i
theorem turn_enumT {P : Program} {w : World} {K : PySem.W.Frag} {elts : List Expr} {kk : Nat} {tpos : Pos} (a e it : Addr) :
    Turn P w K (.Tuple elts kk tpos) (IteT K a) [e, it] e (fun i h => (∃ old, IsEnum h e it ((i : Nat) : Int) old) ∧ h.IsTupleIter it a i ∧ e ≠ it ∧ e ≠ a ∧ a ≠ it) where
  mem := List.mem_cons_self ..
  obj := by
    rintro i h ⟨⟨old, he⟩, ⟨o, ho, hc, hd⟩, _⟩ b hb
    rcases (by simpa using hb : b = e ∨ b = it) with rfl | rfl
    · exact ⟨_, he, fun v q => nomatch q⟩
    · exact ⟨o, ho, fun v q => by rw [hd] at q; cases q⟩
  keep := fun i h h' ⟨⟨old, he⟩, hi, hne⟩ k => ⟨⟨old, k e (by simp) _ he⟩, hi.at fun o q => k it (by simp) o q, hne⟩
  item := by
    intro X hP hw hK hc i pins s σ H E I hf st hg
    subst hP hw hK
    obtain ⟨⟨old, he⟩, hit, n1, n2, n3⟩ := st
    obtain ⟨xs, x, hq, hx⟩ := hg
    obtain ⟨its, rv, p, hz⟩ := I.tuple hq
    obtain ⟨u, hu, ru⟩ := rv.get hx
    have pT : s.heap.IsTuple a its.toArray := p
    have hlt : i < its.toArray.size := by
      obtain ⟨z, _⟩ := List.getElem?_eq_some_iff.mp hu
      simpa using z
    have hel : e < s.heap.objs.size := Heap.lt_size he
    have hil : it < s.heap.objs.size := by
      obtain ⟨_, q, _⟩ := hit
      exact Heap.lt_size q
    refine wpAny_pyNext_enum_itemD (dl_draws_tuple (prog := X.prog) (w := X.w) (A := X.A.in1) (I.ok.hd hc) it a n3 its.toArray) he ⟨hit, pT⟩ hlt n1 (by simp [n1, n2]) fun y h' tk hy ho hst hT hsz hk => ?_
    have hy2 : its.toArray[i]? = some u := by simpa using hu
    rw [hy2] at hy
    cases hy
    refine ⟨_, rfl, wpAny_letOwnedTupleGo_enum (s := { s with heap := h', toks := tk + 1 }) ho fun h2 he2 sb => ?_⟩
    have hT2 : h2.get? s.heap.objs.size = some { cls := .type "tuple", data := .seq #[.int i tk, u] } := (sb.2 _ (Nat.ne_of_gt hel)).trans hT
    have I1 := I.turnedNew (t' := tk + 1) (ob := .frz _ (.tup [.int (i : Nat), x])) (ch := [e, it]) (fun b ob hb q => (sb.2 b (fun z => hb (by rw [z]; exact List.mem_cons_self ..))).trans (hk b ob (fun z => hb (by rw [z]; exact List.mem_cons_self ..)) (fun z => hb (by simp [z])) q)) hf (Nat.le_refl _)
      ⟨hT2, by show 2 ≤ sizeLine; decide, [.int i tk, u], .cons ⟨_, rfl⟩ (.cons ru .nil), ⟨_, hT2, rfl, _, rfl⟩⟩
    refine ⟨.ref s.heap.objs.size, _, I1, rfl, ⟨_, _, x, rfl, rfl, I.hok.fresh (Nat.le_refl _), rfl, fun ys hys => by rw [I.tuple_inj hys hq]; exact hx⟩, ⟨⟨u, ?_⟩, hst.1.at fun o q => (sb.2 it (Ne.symm n1)).trans q, n1, n2, n3⟩, fun b hb => ?_⟩
    · rw [show ((i + 1 : Nat) : Int) = (i : Int) + 1 by omega]
      exact he2
    · rw [upd_ne]
      · exact (hf b hb).1
      · rcases (by simpa using hb : b = e ∨ b = it) with rfl | rfl
        · exact Nat.ne_of_lt hel
        · exact Nat.ne_of_lt hil
  done := by
    intro X hP hw hK hc i pins s σ H E I hf st hg
    subst hP hw hK
    obtain ⟨⟨old, he⟩, hit, n1, n2, n3⟩ := st
    obtain ⟨xs, hq, hx⟩ := hg
    obtain ⟨its, rv, p, hz⟩ := I.tuple hq
    have pT : s.heap.IsTuple a its.toArray := p
    obtain ⟨f0, f1, f2, f3, f4, f5⟩ := hf it (by simp)
    have hT : s.TypeIs (.ref e) "enumerate" := ⟨_, he, rfl⟩
    unfold pyNext
    refine wpAny_bind (wpAny_attempt (wpAny_callSpecial?_slot (name := Str.ofString "__next__") hT F.slot_enumerate_next (wpAny_call_entry F.slot_enumerate_next hT F.entry_enumerate_next ?_ (F.args_enumerate_next_1 _))))
    show wpAny _ _ (field (.ref e) 2 >>= _) _ _ _
    refine wpAny_bind (wpAny_field he rfl (x := .ref it) rfl ?_)
    refine wpAny_bind (RZ.nextOf_tuple_end (I.ok.hd hc) hit pT (by have hl := rv.length; simp; omega) fun h' y ex hy => ?_)
    obtain ⟨o, ho, hcl⟩ := hy
    refine wpAny_bind (wpAny_isInstance (T := "StopIteration") (b := true) ⟨o, ho, hcl⟩ isSubtype_stop ?_)
    exact wpAny_pure ⟨rfl, I.turned (t' := s.toks) (fun b o hb q => ex b o hb q) f0 f1 f3 f4 f5⟩
  self := fun A i s Q E ⟨⟨_, he⟩, _⟩ h => wpAny_pyIter_enum he h

/-! ### over a list or a tuple -/
def iSeq (K : PySem.W.Frag) (tl : TE) : TI := fun σ H R => tl σ H fun v H1 => ∃ (a : Addr) (xs : List V), v = .ref a ∧ ((SqL K H1 a xs ∧ R (Itl K a) H1) ∨ (SqT K H1 a xs ∧ R (Itt K a) H1))
def iEnumA (K : PySem.W.Frag) (ta : TA) : TI := fun σ H R => ta σ H fun vs H1 => ∃ (a : Addr) (xs : List V), vs = [.ref a] ∧ ((SqL K H1 a xs ∧ R (IteF K a) H1) ∨ (SqT K H1 a xs ∧ R (IteT K a) H1))
section
variable {X : Cx} {tg e : Expr} {te : TE}
theorem pi_seq (he : PE X e te) : PI X tg e (iSeq X.K te) := by
  refine ⟨fun pins s σ H R I h => thn (he.run pins s σ H _ I h) fun u s1 ⟨v, H1, I1, r1, a, xs, ev, q⟩ => ?_⟩
  subst ev
  cases r1
  have fr : ∀ b ∈ [s1.heap.objs.size], FpOk X pins H1 b := fun b hb => by
    rw [List.mem_singleton.mp hb]
    exact I1.fpOk (Nat.le_refl _) (I1.hok.fresh (Nat.le_refl _))
  rcases q with ⟨hq, q⟩ | ⟨hq, q⟩
  · obtain ⟨its, rv, p, hz⟩ := I1.list hq
    exact wpAny_pyIter_list p.isList ⟨s1.heap.objs.size, [s1.heap.objs.size], _, _, H1, rfl, I1.kept (t' := s1.toks) fun b o z => Heap.get?_push_of_some _ z, turn_list a _, ⟨_, Heap.get?_push_size _ rfl, rfl, rfl⟩, fr, q⟩
  · obtain ⟨its, rv, p, hz⟩ := I1.tuple hq
    exact wpAny_pyIter_tuple (show s1.heap.IsTuple a its.toArray from p) ⟨s1.heap.objs.size, [s1.heap.objs.size], _, _, H1, rfl, I1.kept (t' := s1.toks) fun b o z => Heap.get?_push_of_some _ z, turn_tuple a _, ⟨_, Heap.get?_push_size _ rfl, rfl, rfl⟩, fr, q⟩
theorem pi_enumA {ta : TA} {p pos tpos : Pos} {elts : List Expr} {kk : Nat} (hg : Gl X "enumerate") (hm : X.mg "enumerate" = none) (ha : PA X [e] ta) (hs : starEach [e] X.env = [(false, eval e X.env)] := by rfl) :
    PI X (.Tuple elts kk tpos) (.Call (.Name "enumerate" p) [e] [] pos) (iEnumA X.K ta) := by
  refine ⟨fun pins s σ H R I h => ?_⟩
  refine Call_ (ld_blt I hg hm boot_enumerate (PyProof.Rows.callWith_type1 (thn (ha.run pos pins s σ H _ I h) fun us s1 ⟨vs, H1, I1, r1, a, xs, ex, q⟩ => ?_) hs rfl))
  subst ex
  cases r1 with
  | cons r rr =>
    cases rr
    cases r
    have fr : ∀ b ∈ [s1.heap.objs.size + 1, s1.heap.objs.size], FpOk X pins H1 b := fun b hb => by
      have hle : s1.heap.objs.size ≤ b := by
        rcases (by simpa using hb : b = s1.heap.objs.size + 1 ∨ b = s1.heap.objs.size) with rfl | rfl
        · exact Nat.le_add_right _ _
        · exact Nat.le_refl _
      exact I1.fpOk hle (I1.hok.fresh hle)
    rcases q with ⟨hq, q⟩ | ⟨hq, q⟩
    · obtain ⟨its, rv, p', hz⟩ := I1.list hq
      refine call_enumerate_list p'.isList fun h' he hit hsz hk => wpAny_pyIter_enum he ?_
      exact ⟨s1.heap.objs.size + 1, [s1.heap.objs.size + 1, s1.heap.objs.size], _, _, H1, rfl, I1.kept (t' := s1.toks) hk, turn_enumF a (s1.heap.objs.size + 1) s1.heap.objs.size, ⟨⟨.none, he⟩, hit, Nat.succ_ne_self _⟩, fr, q⟩
    · obtain ⟨its, rv, p', hz⟩ := I1.tuple hq
      have pT : s1.heap.IsTuple a its.toArray := p'
      obtain ⟨oa, ha1, _⟩ := id pT
      have la : a < s1.heap.objs.size := Heap.lt_size ha1
      refine dl_call_enumerate (begins_tuple a its.toArray) pT fun h' he hit hk => wpAny_pyIter_enum he ?_
      exact ⟨s1.heap.objs.size + 1, [s1.heap.objs.size + 1, s1.heap.objs.size], _, _, H1, rfl, I1.kept (t' := s1.toks) hk, turn_enumT a (s1.heap.objs.size + 1) s1.heap.objs.size,
        ⟨⟨.none, he⟩, ⟨_, hit, rfl, rfl⟩, Nat.succ_ne_self _, Nat.ne_of_gt (Nat.lt_succ_of_lt la), Nat.ne_of_lt la⟩, fr, q⟩
end

section
variable {X : Cx} {w p : Bool} {e a b iter tg : Expr} {es : List Expr} {g ga gb : GE} {gs : GA} {B : Addr → Prop} {E : En} {σ : L2.St} {H H' H1 : Hp} {r : Fr} {M M' M1 : Mem} {O O' O1 : Own} {pos pos' : Pos}
theorem walk_rev {a : Addr} {vs : List V} {ds : List D} (h : LstAt (Mut M1 O1) H1 a vs) (l : IsL X.K (Av B M1 O1) H1 vs ds) : WalkOk X B H1 M1 O1 (Itv X.K a vs.length) ds.reverse := by
  intro A U H fA sA s i
  have h' := h.step s
  have l' := l.step sA
  have hl := l'.length
  refine ⟨fun d hd => ?_, fun hle => by rw [List.length_reverse] at hle; rw [hl]; exact hle⟩
  have hi : i < ds.length := by
    obtain ⟨z, _⟩ := List.getElem?_eq_some_iff.mp hd
    simpa using z
  rw [List.getElem?_reverse hi, ← hl] at hd
  obtain ⟨v, hv, iv⟩ := l'.get hd
  refine ⟨⟨by omega, vs, v, SqL.of h'.2, hv⟩, fun x H' ⟨e1, e2⟩ => ?_⟩
  subst e1
  have e3 := e2 vs (SqL.of h'.2)
  rw [hv] at e3
  cases e3
  exact ⟨Same.refl _, iv⟩
theorem walk_revT {a : Addr} {vs : List V} {ds : List D} (h : TupAt X.K (Mut M1 O1) H1 a vs) (l : IsL X.K (Av B M1 O1) H1 vs ds) : WalkOk X B H1 M1 O1 (RT.ItvT X.K a vs.length) ds.reverse := by
  intro A U H fA sA s i
  have h' := h.step s
  have l' := l.step sA
  have hl := l'.length
  refine ⟨fun d hd => ?_, fun hle => by rw [List.length_reverse] at hle; rw [hl]; exact hle⟩
  have hi : i < ds.length := by
    obtain ⟨z, _⟩ := List.getElem?_eq_some_iff.mp hd
    simpa using z
  rw [List.getElem?_reverse hi, ← hl] at hd
  obtain ⟨v, hv, iv⟩ := l'.get hd
  refine ⟨⟨by omega, vs, v, h'.sq, hv⟩, fun x H' ⟨e1, e2⟩ => ?_⟩
  subst e1
  have e3 := e2 vs h'.sq
  rw [hv] at e3
  cases e3
  exact ⟨Same.refl _, iv⟩
def enumD : Nat → List D → List D
  | _, [] => []
  | i, d :: ds => .tup [.int (i : Nat), d] :: enumD (i + 1) ds
theorem enumD_get : ∀ {ds : List D} {k i : Nat} {d : D}, (enumD k ds)[i]? = some d → ∃ x, ds[i]? = some x ∧ d = .tup [.int ((k + i : Nat)), x]
  | [], _, _, _, h => by simp [enumD] at h
  | x :: ds, k, 0, d, h => ⟨x, rfl, by simpa [enumD] using h.symm⟩
  | x :: ds, k, i + 1, d, h => by
    obtain ⟨y, h1, h2⟩ := enumD_get (ds := ds) (k := k + 1) (i := i) (d := d) (by simpa [enumD] using h)
    exact ⟨y, by simpa using h1, by rw [h2]; congr 4; omega⟩
theorem enumD_len : ∀ {ds : List D} {k : Nat}, (enumD k ds).length = ds.length
  | [], _ => rfl
  | _ :: ds, k => congrArg (· + 1) (enumD_len (ds := ds))
/-- a new pair -/
theorem is_pair {A : Addr → Prop} {T : Addr} {o : Obj} {x y : V} {d1 d2 : D} (hd : o.dict = none) (fA : ∀ b, H b = none → ¬ A b) (n : H T = none) (i1 : Is X.K A H x d1) (i2 : Is X.K A H y d2) : Same H (upd H T (.frz o (.tup [x, y]))) ∧ Is X.K A (upd H T (.frz o (.tup [x, y]))) (.ref T) (.tup [d1, d2]) := by
  have sm := same_upd (o := .frz o (.tup [x, y])) n
  have st : Step A H A (upd H T (.frz o (.tup [x, y]))) := step_same sm fun _ z => z
  exact ⟨sm, .tup (.inl ⟨fA T n, o, hd, upd_same⟩) (.cons (i1.step st) (.cons (i2.step st) .nil))⟩
theorem walk_enum {a : Addr} {vs : List V} {ds : List D} (h : LstAt (Mut M1 O1) H1 a vs) (l : IsL X.K (Av B M1 O1) H1 vs ds) : WalkOk X B H1 M1 O1 (IteF X.K a) (enumD 0 ds) := by
  intro A U H fA sA s i
  have h' := h.step s
  have l' := l.step sA
  refine ⟨fun d hd => ?_, fun hle => ⟨vs, SqL.of h'.2, by rw [enumD_len] at hle; rw [l'.length]; exact hle⟩⟩
  obtain ⟨x, hx, rfl⟩ := enumD_get hd
  obtain ⟨v, hv, iv⟩ := l'.get hx
  refine ⟨⟨vs, v, SqL.of h'.2, hv⟩, fun z H' ⟨T, ob, y, e1, e0, e2, e3, e4⟩ => ?_⟩
  subst e1; subst e3
  have e5 := e4 vs (SqL.of h'.2)
  rw [hv] at e5
  cases e5
  rw [Nat.zero_add]
  exact is_pair e0 fA e2 (.int _) iv
theorem walk_enumT {a : Addr} {vs : List V} {ds : List D} (h : TupAt X.K (Mut M1 O1) H1 a vs) (l : IsL X.K (Av B M1 O1) H1 vs ds) : WalkOk X B H1 M1 O1 (IteT X.K a) (enumD 0 ds) := by
  intro A U H fA sA s i
  have h' := h.step s
  have l' := l.step sA
  refine ⟨fun d hd => ?_, fun hle => ⟨vs, h'.sq, by rw [enumD_len] at hle; rw [l'.length]; exact hle⟩⟩
  obtain ⟨x, hx, rfl⟩ := enumD_get hd
  obtain ⟨v, hv, iv⟩ := l'.get hx
  refine ⟨⟨vs, v, h'.sq, hv⟩, fun z H' ⟨T, ob, y, e1, e0, e2, e3, e4⟩ => ?_⟩
  subst e1; subst e3
  have e5 := e4 vs h'.sq
  rw [hv] at e5
  cases e5
  rw [Nat.zero_add]
  exact is_pair e0 fA e2 (.int _) iv
def zipD : List D → List D → List D
  | x :: xs, y :: ys => .tup [x, y] :: zipD xs ys
  | _, _ => []
theorem zipD_get : ∀ {xs ys : List D} {i : Nat} {d : D}, (zipD xs ys)[i]? = some d → ∃ x y, xs[i]? = some x ∧ ys[i]? = some y ∧ d = .tup [x, y]
  | [], _, _, _, h => by simp [zipD] at h
  | _ :: _, [], _, _, h => by simp [zipD] at h
  | x :: xs, y :: ys, 0, d, h => ⟨x, y, rfl, rfl, by simpa [zipD] using h.symm⟩
  | x :: xs, y :: ys, i + 1, d, h => by
    obtain ⟨a, b, h1, h2, h3⟩ := zipD_get (xs := xs) (ys := ys) (i := i) (d := d) (by simpa [zipD] using h)
    exact ⟨a, b, by simpa using h1, by simpa using h2, h3⟩
theorem zipD_len : ∀ {xs ys : List D}, (zipD xs ys).length = min xs.length ys.length
  | [], ys => by simp [zipD]
  | _ :: _, [] => by simp [zipD]
  | _ :: xs, _ :: ys => by
    show (zipD xs ys).length + 1 = _
    rw [zipD_len, List.length_cons, List.length_cons]
    omega
theorem walk_zip {a b : Addr} {vs us : List V} {ds es : List D} (h : LstAt (Mut M1 O1) H1 a vs) (l : IsL X.K (Av B M1 O1) H1 vs ds) (h2 : LstAt (Mut M1 O1) H1 b us) (l2 : IsL X.K (Av B M1 O1) H1 us es) : WalkOk X B H1 M1 O1 (ItzF X.K a b) (zipD ds es) := by
  intro A U H fA sA s i
  have h' := h.step s
  have l' := l.step sA
  have h2' := h2.step s
  have l2' := l2.step sA
  refine ⟨fun d hd => ?_, fun hle => ⟨vs, us, SqL.of h'.2, SqL.of h2'.2, by rw [zipD_len] at hle; rw [l'.length, l2'.length]; omega⟩⟩
  obtain ⟨x, y, hx, hy, rfl⟩ := zipD_get hd
  obtain ⟨v, hv, iv⟩ := l'.get hx
  obtain ⟨u, hu, iu⟩ := l2'.get hy
  refine ⟨⟨vs, us, v, u, SqL.of h'.2, SqL.of h2'.2, hv, hu⟩, fun z H' ⟨T, ob, x', y', e1, e0, e2, e3, e4, e5⟩ => ?_⟩
  subst e1; subst e3
  have f4 := e4 vs (SqL.of h'.2)
  have f5 := e5 us (SqL.of h2'.2)
  rw [hv] at f4
  rw [hu] at f5
  cases f4; cases f5
  exact is_pair e0 fA e2 iv iu
theorem walk_zipT {a b : Addr} {vs us : List V} {ds es : List D} (h : TupAt X.K (Mut M1 O1) H1 a vs) (l : IsL X.K (Av B M1 O1) H1 vs ds) (h2 : TupAt X.K (Mut M1 O1) H1 b us) (l2 : IsL X.K (Av B M1 O1) H1 us es) : WalkOk X B H1 M1 O1 (ItzTF X.K a b) (zipD ds es) := by
  intro A U H fA sA s i
  have h' := h.step s
  have l' := l.step sA
  have h2' := h2.step s
  have l2' := l2.step sA
  refine ⟨fun d hd => ?_, fun hle => ⟨vs, us, h'.sq, h2'.sq, by rw [zipD_len] at hle; rw [l'.length, l2'.length]; omega⟩⟩
  obtain ⟨x, y, hx, hy, rfl⟩ := zipD_get hd
  obtain ⟨v, hv, iv⟩ := l'.get hx
  obtain ⟨u, hu, iu⟩ := l2'.get hy
  refine ⟨⟨vs, us, v, u, h'.sq, h2'.sq, hv, hu⟩, fun z H' ⟨T, ob, x', y', e1, e0, e2, e3, e4, e5⟩ => ?_⟩
  subst e1; subst e3
  have f4 := e4 vs h'.sq
  have f5 := e5 us h2'.sq
  rw [hv] at f4
  rw [hu] at f5
  cases f4; cases f5
  exact is_pair e0 fA e2 iv iu
/-- what a list or tuple holds -/
def itsD (f : List D → List D) (ga : GE) : GI := fun r M Q => ga r M fun d M1 => match d with
  | .lst ds => Q (f ds) M1
  | .tup ds => Q (f ds) M1
  | _ => False
theorem itsD_mono {f : List D → List D} (ha : ∀ r M Q Q', (∀ d M', Q d M' → Q' d M') → ga r M Q → ga r M Q') : ∀ r M Q Q', (∀ d M', Q d M' → Q' d M') → itsD f ga r M Q → itsD f ga r M Q' := fun r M Q Q' h q => ha _ _ _ _ (fun d M1 q1 => by
  split at q1
  · exact h _ _ q1
  · exact h _ _ q1
  · exact q1) q
theorem di_seq (ha : DE true p X iter ga) : DI p X tg iter (itsD (fun ds => ds) ga) where
  ex := ⟨_, pi_seq ha.run, fun B E σ H r M O k R' R q hR => by
    refine ha.on R q fun d M1 v H1 O1 k1 R1 l1 i1 => ?_
    have i1 : Is X.K (Av B M1 O1) H1 v d := i1
    split at k1
    · cases i1 with
      | @lst a vs _ h l => exact ⟨a, vs, rfl, .inl ⟨SqL.of h.2, hR _ M1 H1 O1 _ k1 R1 l1 (walk_lst (lst_mut h) l)⟩⟩
    · cases i1 with
      | @tup a vs _ h l => exact ⟨a, vs, rfl, .inr ⟨h.sq, hR _ M1 H1 O1 _ k1 R1 l1 (walk_tup (tup_mut h) l)⟩⟩
    · exact k1.elim⟩
  mono := itsD_mono ha.mono
theorem di_rev {pf : Pos} (hg : Gl X "reversed") (hm : X.mg "reversed" = none) (ha : DE true p X e ga) (hs : starEach [e] X.env = (false, eval e X.env) :: starEach [] X.env := by rfl) : DI p X tg (.Call (.Name "reversed" pf) [e] [] pos) (itsD List.reverse ga) where
  ex := ⟨_, RT.pi_revA hg hm ha.run hs, fun B E σ H r M O k R' R q hR => by
    refine ha.on R q fun d M1 v H1 O1 k1 R1 l1 i1 => ?_
    have i1 : Is X.K (Av B M1 O1) H1 v d := i1
    split at k1
    · cases i1 with
      | @lst a vs _ h l => exact ⟨a, vs, rfl, .inl ⟨SqL.of h.2, hR _ M1 H1 O1 _ k1 R1 l1 (walk_rev (lst_mut h) l)⟩⟩
    · cases i1 with
      | @tup a vs _ h l => exact ⟨a, vs, rfl, .inr ⟨h.sq, hR _ M1 H1 O1 _ k1 R1 l1 (walk_revT (tup_mut h) l)⟩⟩
    · exact k1.elim⟩
  mono := itsD_mono ha.mono
theorem di_enum {pf tpos : Pos} {elts : List Expr} {kk : Nat} (hg : Gl X "enumerate") (hm : X.mg "enumerate" = none) (ha : DE true p X e ga) (hs : starEach [e] X.env = [(false, eval e X.env)] := by rfl) : DI p X (.Tuple elts kk tpos) (.Call (.Name "enumerate" pf) [e] [] pos) (itsD (enumD 0) ga) where
  ex := ⟨_, pi_enumA hg hm (da_one ha hs).run hs, fun B E σ H r M O k R' R q hR => by
    refine (da_one ha hs).on R (k := fun ds M1 => ∃ d, ds = [d] ∧ match d with
      | .lst ds => k (enumD 0 ds) M1
      | .tup ds => k (enumD 0 ds) M1
      | _ => False) (ha.mono _ _ _ _ (fun d M1 q1 => ⟨d, rfl, q1⟩) q) fun ds M1 us H1 O1 k1 R1 l1 i1 => ?_
    obtain ⟨d, rfl, k1⟩ := k1
    have i2 := isXL_strong i1
    cases i2 with
    | cons j1 t =>
      cases t
      split at k1
      · cases j1 with
        | @lst a vs _ h l => exact ⟨a, vs, rfl, .inl ⟨SqL.of h.2, hR _ M1 H1 O1 _ k1 R1 l1 (walk_enum (lst_mut h) l)⟩⟩
      · cases j1 with
        | @tup a vs _ h l => exact ⟨a, vs, rfl, .inr ⟨h.sq, hR _ M1 H1 O1 _ k1 R1 l1 (walk_enumT (tup_mut h) l)⟩⟩
      · exact k1.elim⟩
  mono := itsD_mono ha.mono
def giZip (gs : GA) : GI := fun r M Q => gs r M fun ds M1 => match ds with
  | [.lst xs, .lst ys] => Q (zipD xs ys) M1
  | [.tup xs, .tup ys] => Q (zipD xs ys) M1
  | _ => False
theorem di_zip {pf tpos : Pos} {elts : List Expr} {kk : Nat} (hg : Gl X "zip") (hm : X.mg "zip" = none) (ha : DA true p X [a, b] gs) (hs : starEach [a, b] X.env = (false, eval a X.env) :: starEach [b] X.env := by rfl) (hpl : (backTo pos (starEach [b] X.env)).any (·.1) = false := by rfl) :
    DI p X (.Tuple elts kk tpos) (.Call (.Name "zip" pf) [a, b] [] pos) (giZip gs) where
  ex := ⟨_, pi_zipF hg hm ha.run hs hpl, fun B E σ H r M O k R' R q hR => by
    refine ha.on R q fun ds M1 us H1 O1 k1 R1 l1 i1 => ?_
    have i2 := isXL_strong i1
    split at k1
    · cases i2 with
      | cons j1 t =>
        cases t with
        | cons j2 t =>
          cases t
          cases j1 with
          | @lst a vs _ h l => cases j2 with
            | @lst b us _ h2 l2 => exact ⟨a, b, vs, us, rfl, .inl ⟨SqL.of h.2, SqL.of h2.2, hR _ M1 H1 O1 _ k1 R1 l1 (walk_zip (lst_mut h) l (lst_mut h2) l2)⟩⟩
    · cases i2 with
      | cons j1 t =>
        cases t with
        | cons j2 t =>
          cases t
          cases j1 with
          | @tup a vs _ h l => cases j2 with
            | @tup b us _ h2 l2 => exact ⟨a, b, vs, us, rfl, .inr ⟨h.sq, h2.sq, hR _ M1 H1 O1 _ k1 R1 l1 (walk_zipT (tup_mut h) l (tup_mut h2) l2)⟩⟩
    · exact k1.elim⟩
  mono := fun r M Q Q' h q => ha.mono _ _ _ _ (fun d M1 q1 => by
    split at q1
    · exact h _ _ q1
    · exact h _ _ q1
    · exact q1) q
end
end DL

set_option Elab.async false
set_option linter.all false
set_option maxRecDepth 100000
/-! DL17: an item stored, is of truths, index, min and max of tuples, tuple * int, repr. -/
namespace PySem
open AutoSeq1 (wpAny_loadPart')
/-- a tuple times 1, or an empty one: itself -/
theorem dl_tuple_mul1 (l : Addr) (its : Array Value) (n : Nat) (dd : Option Addr) (sl : Array (Option Value)) (x : Int) (u : Tok) (c0 : (decide (x < -(2 ^ 63)) || decide (x ≥ 2 ^ 63)) = false) (c1 : (its.isEmpty || x == 1) = true) :
    Meets (Builtin.«tuple.__mul__» ⟨[.ref l, .int x u], []⟩) (fun _ R s => s.heap.get? l = some { cls := .type "tuple", dict := dd, data := .seq its n, slots := sl } ∧ R (.ok (.ret (.ref l))) s) :=
  .of_wp fun prog w A R s h => by
    obtain ⟨hp, g, d, tk, os⟩ := s
    obtain ⟨hl, h⟩ := h
    have f1 := AutoSeq1.idx_int
    have hT : (Shared.mk hp g d tk os).TypeIs (.ref l) "tuple" := ⟨_, hl, rfl⟩
    wp_walk using wpAny_loadPart' hl, wpAny_typeOf hT
    repeat (first
      | (refine wpAny_ite_false (decide_eq_false (by rw [c0]; exact Bool.false_ne_true)) ?_; wp_walk using wpAny_loadPart' hl, wpAny_typeOf hT)
      | (refine wpAny_ite_true (decide_eq_true c1) ?_; wp_walk using wpAny_loadPart' hl, wpAny_typeOf hT))
    exact ⟨_, rfl, h⟩
/-- a tuple times 0 or less -/
theorem dl_tuple_mul0 (l : Addr) (its : Array Value) (n : Nat) (dd : Option Addr) (sl : Array (Option Value)) (x : Int) (u : Tok) (c0 : (decide (x < -(2 ^ 63)) || decide (x ≥ 2 ^ 63)) = false) (c1 : (its.isEmpty || x == 1) = false)
    (c2 : (decide (x ≤ 0) || its.isEmpty) = true) :
    Meets (Builtin.«tuple.__mul__» ⟨[.ref l, .int x u], []⟩) (fun _ R s => s.heap.get? l = some { cls := .type "tuple", dict := dd, data := .seq its n, slots := sl } ∧
      R (.ok (.ret (.ref s.heap.objs.size))) { s with heap := s.heap.push { cls := Value.type "tuple", data := Data.seq #[] }, toks := s.toks }) :=
  .of_wp fun prog w A R s h => by
    obtain ⟨hp, g, d, tk, os⟩ := s
    obtain ⟨hl, h⟩ := h
    have f1 := AutoSeq1.idx_int
    wp_walk using wpAny_loadPart' hl
    repeat (first
      | (refine wpAny_ite_false (decide_eq_false (by rw [c0]; exact Bool.false_ne_true)) ?_; wp_walk using wpAny_loadPart' hl)
      | (refine wpAny_ite_false (decide_eq_false (by rw [c1]; exact Bool.false_ne_true)) ?_; wp_walk using wpAny_loadPart' hl)
      | (refine wpAny_ite_true (decide_eq_true c2) ?_; wp_walk using wpAny_loadPart' hl))
    exact ⟨_, rfl, h⟩
end PySem
namespace DL
open PySem PySem.Spec PySem.W PyProof.Rows L2

section
variable {X : Cx} {w p w1 w2 : Bool} {e a b c : Expr} {es : List Expr} {g ga gb gc : GE} {gf : GF} {gs : GA} {B : Addr → Prop} {E : En} {σ : L2.St} {H H' : Hp} {r : Fr} {M M' : Mem} {O O' : Own} {pos pos' : Pos}

/-! ### is, of truths -/
def goIsB (neg : Bool) : GO := fun d e M Q => match d, e with
  | .bl x, .bl y => Q (.bl (xor neg (decide (x = y)))) M
  | _, _ => False
theorem goIsB_mono {neg : Bool} : ∀ d e M Q Q', (∀ d M', Q d M' → Q' d M') → goIsB neg d e M Q → goIsB neg d e M Q' := fun d e M Q Q' h q => by
  unfold goIsB at q ⊢
  split at q
  · exact h _ _ q
  · exact q
theorem od_isB : OpD X (compareOp .Is) (goIsB false) where
  ex := ⟨_, op_isBl, fun B E σ H r M O x y d e Q R i1 i2 q => by
    unfold goIsB at q
    split at q
    · rw [Bool.false_xor] at q
      exact ⟨_, _, is1_bl i1, is1_bl i2, fin_v R (.bl _) q⟩
    · exact q.elim⟩
  mono := goIsB_mono
theorem od_notB : OpD X (compareOp .IsNot) (goIsB true) where
  ex := ⟨_, op_notBl, fun B E σ H r M O x y d e Q R i1 i2 q => by
    unfold goIsB at q
    split at q
    · rw [Bool.true_xor] at q
      exact ⟨_, _, is1_bl i1, is1_bl i2, fin_v R (.bl _) q⟩
    · exact q.elim⟩
  mono := goIsB_mono

/-! ### xs[i] = e, xs a slot's own list -/
def gIPut (i : Nat) (gi ge : GE) : GS := fun D r M => ge r M fun d M1 => match r.sl[i]? with
  | some (.o (.lst ds)) => gi r M1 fun k M2 => match k with
    | .int k => (match ixN ds.length k with
      | some j => D.nx (r.set i (.o (.lst (ds.set j d)))) M2
      | none => False)
    | _ => False
  | _ => False
theorem ds_iput (i : Nat) {x : Str} {px : Pos} (he : DE true p X e ge) (hi : DE true p X a ga) (hN : X.N[i]? = some x := by rfl) (hv : Vis X.env.scope x := by first | exact Or.inl rfl | exact Or.inr (Or.inl rfl) | exact Or.inr (Or.inr rfl)) (hd : (x == ("__debug__" : Str)) = false := by decide)
    (hcd : (x == ("__classdict__" : Str)) = false := by decide)
    (has : ∀ v, assign (.Subscript (.Name x px) a pos') X.env v = (do
      let ov ← holding [v] (eval (.Name x px) X.env)
      let iv ← holding [v, ov] (eval a X.env)
      standAt pos'
      holding [v, ov, iv] (setItem ov iv v)
      release [v, ov, iv] []) := by intro _; rfl)
    (hs : swapsWithSole [.Subscript (.Name x px) a pos'] e pos.line X.env = pure false := by rfl) (hw : swappedStores [.Subscript (.Name x px) a pos'] e X.env = pure none := by rfl)
    (h1 : (assignEach [.Subscript (.Name x px) a pos'] X.env).map (·.2) = [assign (.Subscript (.Name x px) a pos') X.env] := by rfl) : DS X (.Assign [.Subscript (.Name x px) a pos'] e pos) (gIPut i ga ge) := by
  refine ⟨psI (ps_asg he.run (pg_sub (pe_var (pos := px) hN hv hd hcd) hi.run set_list has) hs hw h1) fun D σ H ⟨B, E, r, M, O, R, q⟩ => ?_, fun D D' r M l q => he.mono _ _ _ _ (fun d M1 q1 => ?_) q⟩
  · refine he.on R q fun d M1 v H1 O1 k1 R1 l1 i1 => ?_
    split at k1
    · rename_i ds er
      obtain ⟨x', e1, a', e2, ha, vs, e3, l3⟩ := R1.slot er
      subst e2
      refine ⟨_, e1, ?_⟩
      refine hi.on R1 (k := fun k M2 => match k with
        | .int k => (match ixN ds.length k with
          | some j => (LS X B E D).nx (r.set i (.o (.lst (ds.set j d)))) M2
          | none => False)
        | _ => False) k1 fun k M2 u H2 O2 k2 R2 l2 i2 => ?_
      have i1' : Is X.K (Av B M2 O2) H2 v d := Is.step l2.avs i1
      have i2 : Is X.K (Av B M2 O2) H2 u k := i2
      split at k2
      · rename_i n _
        cases i2
        split at k2
        · rename_i j ej
          obtain ⟨x2, f1, a2, f2, fa, us, f3, m3⟩ := R2.slot er
          rw [e1] at f1
          cases f1
          cases (show some (V.ref a') = some (V.ref a2) from f2)
          refine ⟨a', us, n, j, rfl, rfl, f3, by rw [m3.length]; exact ej, k2 σ _ O2 (R2.mutO er e1 fa ⟨us.set j v, upd_same, ?_⟩)⟩
          have s : Step (Av B M2 O2) H2 (Av B M2 O2) (upd H2 a' (.lst (us.set j v))) := fun b o eb nb => ⟨by
            rw [upd_ne (fun z => nb (by rw [z]; exact .inr (.inr (by rw [fa]; simp))))]; exact eb, nb⟩
          exact (m3.set i1' j).step s
        · exact k2.elim
      · exact k2.elim
    · exact k1.elim
  · split at q1
    · refine hi.mono _ _ _ _ (fun k M2 q2 => ?_) q1
      split at q2
      · split at q2
        · exact l.nx _ _ q2
        · exact q2
      · exact q2
    · exact q1

/-! ### xs.index(y) -/
theorem pyL_len : ∀ ds : List D, (D.pyL ds).length = ds.length
  | [] => rfl
  | d :: r => congrArg (· + 1) (pyL_len r)
theorem pyL_get : ∀ {ds : List D} {i : Nat} {z : PyData}, (D.pyL ds)[i]? = some z → ∃ d, ds[i]? = some d ∧ z = d.py
  | [], _, _, h => by simp [D.pyL] at h
  | d :: r, 0, z, h => ⟨d, rfl, by simpa [D.pyL] using h.symm⟩
  | d :: r, i + 1, z, h => by
    obtain ⟨x, h1, h2⟩ := pyL_get (ds := r) (i := i) (z := z) (by simpa [D.pyL] using h)
    exact ⟨x, by simpa using h1, h2⟩
theorem pyL_get' : ∀ {ds : List D} {i : Nat} {d : D}, ds[i]? = some d → (D.pyL ds)[i]? = some d.py
  | [], _, _, h => by simp at h
  | d :: r, 0, z, h => by simp at h; subst h; rfl
  | d :: r, i + 1, z, h => by
    have := pyL_get' (ds := r) (i := i) (d := z) (by simpa using h)
    simpa [D.pyL] using this
/-- the first one equal to e -/
def ixD : List D → D → Nat → Option Nat
  | [], _, _ => none
  | d :: r, e, k => if d.eqv e = true then some k else ixD r e (k + 1)
theorem ixD_spec {e : D} : ∀ {ds : List D} {k j : Nat}, ixD ds e k = some j → k ≤ j ∧ (∃ d, ds[j - k]? = some d ∧ d.eqv e = true) ∧ ∀ m d, m < j - k → ds[m]? = some d → d.eqv e = false
  | [], _, _, h => by simp [ixD] at h
  | d :: r, k, j, h => by
    unfold ixD at h
    by_cases c : d.eqv e = true
    · rw [if_pos c] at h
      cases h
      exact ⟨Nat.le_refl _, ⟨d, by simp, c⟩, fun m _ hm => by omega⟩
    · rw [if_neg c] at h
      obtain ⟨h1, ⟨x, h2, h3⟩, h4⟩ := ixD_spec (ds := r) h
      refine ⟨by omega, ⟨x, ?_, h3⟩, fun m y hm hy => ?_⟩
      · rw [show j - k = (j - (k + 1)) + 1 by omega]
        simpa using h2
      · cases m with
        | zero =>
          simp at hy
          subst hy
          simpa using c
        | succ m => exact h4 m y (by omega) (by simpa using hy)
/-- .. in a tuple of ints -/
def ixT (ds : List D) (e : D) (k : Nat → Prop) : Prop := match intsOf ds, e with
  | some ns, .int i => i ∈ ns ∧ k (ns.idxOf i)
  | _, _ => False
theorem ixT_mono {ds : List D} {e : D} {k k' : Nat → Prop} (h : ∀ j, k j → k' j) (q : ixT ds e k) : ixT ds e k' := by
  unfold ixT at q ⊢
  split at q
  · exact ⟨q.1, h _ q.2⟩
  · exact q.elim
def gIdx (ga gb : GE) : GE := fun r M Q => ga r M fun d M1 => match d with
  | .lst ds => gb r M1 fun e M2 => (D.ok (.lst ds) = true ∧ e.ok = true) ∧ (match ixD ds e 0 with
    | some j => Q (.int (j : Nat)) M2
    | none => False)
  | .tup ds => gb r M1 fun e M2 => ixT ds e fun j => Q (.int (j : Nat)) M2
  | _ => False
theorem gIdx_mono (ha : ∀ r M Q Q', (∀ d M', Q d M' → Q' d M') → ga r M Q → ga r M Q') (hb : ∀ r M Q Q', (∀ d M', Q d M' → Q' d M') → gb r M Q → gb r M Q') : ∀ r M Q Q', (∀ d M', Q d M' → Q' d M') → gIdx ga gb r M Q → gIdx ga gb r M Q' := fun r M Q Q' h q =>
  ha _ _ _ _ (fun d M1 q1 => by
    split at q1
    · refine hb _ _ _ _ (fun e M2 q2 => ⟨q2.1, ?_⟩) q1
      have q3 := q2.2
      split at q3
      · exact h _ _ q3
      · exact q3
    · exact hb _ _ _ _ (fun e M2 q2 => ixT_mono (fun _ q3 => h _ _ q3) q2) q1
    · exact q1) q
theorem de_index {nm : Str} {apos cpos : Pos} (hnm : nm = "index" := by rfl) (hu : X.A.units + 65 < cLine) (ha : DE true p X a ga) (hb : DE true p X b gb)
    (hbase : attributeBase a "index" X.env (eval a X.env) = eval a X.env := by rfl)
    (hfew : ((backTo cpos (starEach [b] X.env)).all (fun x => !x.1) && (backToKw cpos (keywordEach [] X.env)).all (fun x => x.1.isSome)
      && decide ([b].length + ([] : List Keyword).length + (if ([] : List Keyword).isEmpty then 0 else 1) < 30)) = true := by rfl)
    (hline : (apos.endLine == cpos.line) = true := by rfl) (hs : starEach [b] X.env = (false, eval b X.env) :: starEach [] X.env := by rfl) (hplain : (backTo cpos (starEach [] X.env)).any (·.1) = false := by rfl) :
    DE true p X (.Call (.Attribute a nm apos) [b] [] cpos) (gIdx ga gb) := by
  subst hnm
  refine ⟨peI (pe_idxA hu ha.run (da_one hb hs).run hbase hfew hline hs hplain) fun σ H Q ⟨B, E, r, M, O, R, q⟩ => ?_, gIdx_mono ha.mono hb.mono⟩
  refine ha.on R q fun d M1 v H1 O1 k1 R1 l1 i1 => ?_
  have i1 : Is X.K (Av B M1 O1) H1 v d := i1
  split at k1
  · rename_i ds _
    cases i1 with
    | @lst l vs _ h l3 =>
      refine .inl ⟨.inl ⟨rfl, _, SqL.of h.2⟩, ?_⟩
      refine (da_one hb hs).on R1 (k := fun zs M2 => ∃ e, zs = [e] ∧ (D.ok (.lst ds) = true ∧ e.ok = true) ∧ (match ixD ds e 0 with
        | some j => LE true p X B E σ r H M O Q (.int (j : Nat)) M2
        | none => False)) (hb.mono _ _ _ _ (fun e M2 q2 => ⟨e, rfl, q2⟩) k1) fun zs M2 us H2 O2 k2 R2 l2 i2 => ?_
      obtain ⟨e, rfl, ⟨ok1, ok2⟩, k2⟩ := k2
      split at k2
      · rename_i j ej
        obtain ⟨_, ⟨z, hz, hze⟩, hno⟩ := ixD_spec ej
        have jj := isXL_strong i2
        cases jj with
        | @cons u _ _ _ iu t =>
          cases t
          have iL : Is X.K (Av B M2 O2) H2 (.ref l) (.lst ds) := Is.step l2.avs (.lst h l3)
          have dp1 := iL.dp (ok_and ok1).1
          refine ⟨l, u, e.py, D.pyL ds, j, z.py, rfl, rfl, dp1, iu.dp (ok_and ok2).1, (ok_and ok1).2, (ok_and ok2).2, pyL_get' hz, hze, fun m z' hm hz' => ?_, fin_v R2 (.int _) fun v3 H3 O3 R3 l4 i3 => k2 v3 H3 O3 R3 ((l1.trans l2).trans l4.weak) i3⟩
          obtain ⟨y, hy, rfl⟩ := pyL_get hz'
          exact hno m y (by omega) hy
      · exact k2.elim
  · rename_i ds _
    cases i1 with
    | @tup l vs _ h l3 =>
      refine .inr ⟨⟨l, vs, rfl, h.tk⟩, ?_⟩
      refine (da_one hb hs).on R1 (k := fun zs M2 => ∃ e, zs = [e] ∧ ixT ds e fun j => LE true p X B E σ r H M O Q (.int (j : Nat)) M2) (hb.mono _ _ _ _ (fun e M2 q2 => ⟨e, rfl, q2⟩) k1) fun zs M2 us H2 O2 k2 R2 l2 i2 => ?_
      obtain ⟨e, rfl, k2⟩ := k2
      unfold ixT at k2
      split at k2
      · rename_i ns i en
        have jj := isXL_strong i2
        cases jj with
        | @cons u _ _ _ iu t =>
          cases t
          cases iu
          have iL : Is X.K (Av B M2 O2) H2 (.ref l) (.tup ds) := Is.step l2.avs (.tup h l3)
          cases iL with
          | @tup _ vs2 _ h2 l4 =>
            refine ⟨l, ns, i, rfl, rfl, by rw [← of_intsOf l4 en]; exact h2.sq, k2.1, fin_v R2 (.int _) fun v3 H3 O3 R3 l5 i3 => k2.2 v3 H3 O3 R3 ((l1.trans l2).trans l5.weak) i3⟩
      · exact k2.elim
  · exact k1.elim

/-! ### min, max of a tuple of ints -/
theorem alike_ints (ns : List Int) : AlikeAll (ns.map PyData.int) := by
  refine ⟨fun x hx y hy => ?_, fun x hx => ?_⟩
  · obtain ⟨a, _, rfl⟩ := List.mem_map.mp hx
    obtain ⟨b, _, rfl⟩ := List.mem_map.mp hy
    rfl
  · obtain ⟨a, _, rfl⟩ := List.mem_map.mp hx
    exact fun z => nomatch z
theorem depth_ints : ∀ ns : List Int, PyData.depthAll (ns.map PyData.int) = 0
  | [] => rfl
  | n :: r => by simp only [List.map_cons, PyData.depthAll, PyData.depth, depth_ints r]; rfl
theorem dp_ints {K : PySem.W.Frag} : ∀ ns : List Int, DpAll K H (ns.map V.int) (ns.map PyData.int)
  | [] => .nil
  | n :: r => .cons (.int n) (dp_ints r)
theorem foldmin (ns : List Int) : ∀ n : Int, ns.foldl min n ∈ n :: ns ∧ ∀ y ∈ n :: ns, ns.foldl min n ≤ y := by
  induction ns with
  | nil => exact fun n => ⟨List.mem_cons_self .., fun y hy => by rw [List.mem_singleton.mp hy]; exact Int.le_refl _⟩
  | cons m r ih =>
    intro n
    obtain ⟨h1, h2⟩ := ih (min n m)
    rw [List.foldl_cons]
    have h3 := h2 _ (List.mem_cons_self ..)
    refine ⟨?_, fun y hy => ?_⟩
    · rcases List.mem_cons.mp h1 with e | e
      · rw [e]
        rcases Int.le_total n m with z | z
        · rw [Int.min_eq_left z]; exact List.mem_cons_self ..
        · rw [Int.min_eq_right z]; exact List.mem_cons_of_mem _ (List.mem_cons_self ..)
      · exact List.mem_cons_of_mem _ (List.mem_cons_of_mem _ e)
    · rcases List.mem_cons.mp hy with rfl | hy
      · exact Int.le_trans h3 (Int.min_le_left _ _)
      · rcases List.mem_cons.mp hy with rfl | hy
        · exact Int.le_trans h3 (Int.min_le_right _ _)
        · exact h2 y (List.mem_cons_of_mem _ hy)
theorem foldmax (ns : List Int) : ∀ n : Int, ns.foldl max n ∈ n :: ns ∧ ∀ y ∈ n :: ns, y ≤ ns.foldl max n := by
  induction ns with
  | nil => exact fun n => ⟨List.mem_cons_self .., fun y hy => by rw [List.mem_singleton.mp hy]; exact Int.le_refl _⟩
  | cons m r ih =>
    intro n
    obtain ⟨h1, h2⟩ := ih (max n m)
    rw [List.foldl_cons]
    have h3 := h2 _ (List.mem_cons_self ..)
    refine ⟨?_, fun y hy => ?_⟩
    · rcases List.mem_cons.mp h1 with e | e
      · rw [e]
        rcases Int.le_total n m with z | z
        · rw [Int.max_eq_right z]; exact List.mem_cons_of_mem _ (List.mem_cons_self ..)
        · rw [Int.max_eq_left z]; exact List.mem_cons_self ..
      · exact List.mem_cons_of_mem _ (List.mem_cons_of_mem _ e)
    · rcases List.mem_cons.mp hy with rfl | hy
      · exact Int.le_trans (Int.le_max_left _ _) h3
      · rcases List.mem_cons.mp hy with rfl | hy
        · exact Int.le_trans (Int.le_max_right _ _) h3
        · exact h2 y (List.mem_cons_of_mem _ hy)
theorem reads_int {h : Heap} {v : Value} {n : Int} {as : List Addr} (r : Reads h v (.int n) as) : ∃ t, v = .int n t := by
  cases r
  exact ⟨_, rfl⟩
theorem cr_minT (hc : X.calm = true) (hu : X.A.units + 1 < cLine) : CallR X (.builtin "min") (fun vs H Q => ∃ (a : Addr) (ns : List Int), vs = [V.ref a] ∧ SqT X.K H a (ns.map V.int) ∧ 0 < ns.length ∧ ∀ m, m ∈ ns → (∀ y, y ∈ ns → m ≤ y) → Q (.int m) H) := by
  intro pins s σ H vs us Q I r h
  obtain ⟨a, ns, rfl, hs, h0, q⟩ := h
  obtain ⟨its, rv, pt, _⟩ := I.tuple hs
  rw [Vals.ref1 r]
  cases ns with
  | nil => exact absurd h0 (by simp)
  | cons n ns =>
    obtain ⟨as, rs⟩ := Dp.readsAll I _ _ its (dp_ints (K := X.K) (H := H) (n :: ns)) rv
    refine min_tuple_data (vs := its.toArray) (I.ok.hd hc) pt (show ReadsAll s.heap its.toArray.toList (PyData.int n :: ns.map .int) as from rs) (alike_ints (n :: ns)) (by have := depth_ints (n :: ns); rw [List.map_cons] at this; rw [this]; exact hu) fun i v h' tk bs _ rd hk => ?_
    rw [minD_ints] at rd
    obtain ⟨t, rfl⟩ := reads_int rd
    obtain ⟨f1, f2⟩ := foldmin ns n
    exact ⟨.int _, H, I.kept hk, ⟨t, rfl⟩, q _ f1 f2⟩
theorem cr_maxT (hc : X.calm = true) (hu : X.A.units + 1 < cLine) : CallR X (.builtin "max") (fun vs H Q => ∃ (a : Addr) (ns : List Int), vs = [V.ref a] ∧ SqT X.K H a (ns.map V.int) ∧ 0 < ns.length ∧ ∀ m, m ∈ ns → (∀ y, y ∈ ns → y ≤ m) → Q (.int m) H) := by
  intro pins s σ H vs us Q I r h
  obtain ⟨a, ns, rfl, hs, h0, q⟩ := h
  obtain ⟨its, rv, pt, _⟩ := I.tuple hs
  rw [Vals.ref1 r]
  cases ns with
  | nil => exact absurd h0 (by simp)
  | cons n ns =>
    obtain ⟨as, rs⟩ := Dp.readsAll I _ _ its (dp_ints (K := X.K) (H := H) (n :: ns)) rv
    refine max_tuple_data (vs := its.toArray) (I.ok.hd hc) pt (show ReadsAll s.heap its.toArray.toList (PyData.int n :: ns.map .int) as from rs) (alike_ints (n :: ns)) (by have := depth_ints (n :: ns); rw [List.map_cons] at this; rw [this]; exact hu) fun i v h' tk bs _ rd hk => ?_
    rw [maxD_ints] at rd
    obtain ⟨t, rfl⟩ := reads_int rd
    obtain ⟨f1, f2⟩ := foldmax ns n
    exact ⟨.int _, H, I.kept hk, ⟨t, rfl⟩, q _ f1 f2⟩
def gcMinA : GC := fun ds M Q => match ds with
  | [.lst xs] => ∃ ns, intsOf xs = some ns ∧ 0 < ns.length ∧ ∀ m, m ∈ ns → (∀ y ∈ ns, m ≤ y) → Q (.int m) M
  | [.tup xs] => ∃ ns, intsOf xs = some ns ∧ 0 < ns.length ∧ ∀ m, m ∈ ns → (∀ y ∈ ns, m ≤ y) → Q (.int m) M
  | [.int i, .int j] => Q (.int (if j < i then j else i)) M
  | _ => False
def gcMaxA : GC := fun ds M Q => match ds with
  | [.lst xs] => ∃ ns, intsOf xs = some ns ∧ 0 < ns.length ∧ ∀ m, m ∈ ns → (∀ y ∈ ns, y ≤ m) → Q (.int m) M
  | [.tup xs] => ∃ ns, intsOf xs = some ns ∧ 0 < ns.length ∧ ∀ m, m ∈ ns → (∀ y ∈ ns, y ≤ m) → Q (.int m) M
  | [.int i, .int j] => Q (.int (if j > i then j else i)) M
  | _ => False
theorem ca_minA (hc : X.calm = true) (hu : X.A.units + 1 < cLine) : CaD X (.builtin "min") gcMinA where
  ex := ⟨_, (cr_min hc).or ((cr_minT hc hu).or (call_min2 hc)), fun B E σ H r M O xs ds Q R ii q => by
    unfold gcMinA at q
    split at q
    · obtain ⟨v, rfl, a, vs, rfl, h1, l1⟩ := isXL1 ii
      obtain ⟨bs, e, h0, q⟩ := q
      rw [of_intsOf l1 e] at h1
      exact .inl ⟨a, bs, rfl, SqL.of h1, h0, fun m hm hy => fin_v R (.int _) (q m hm hy)⟩
    · obtain ⟨v, rfl, a, vs, rfl, h1, l1⟩ := isXL1 ii
      obtain ⟨bs, e, h0, q⟩ := q
      rw [of_intsOf l1 e] at h1
      exact .inr (.inl ⟨a, bs, rfl, h1, h0, fun m hm hy => fin_v R (.int _) (q m hm hy)⟩)
    · obtain ⟨v, u, rfl, j1, j2⟩ := isXL2 ii
      rw [is1_int j1, is1_int j2]
      exact .inr (.inr ⟨_, _, rfl, fin_v R (.int _) q⟩)
    · exact q.elim⟩
  mono := fun d M Q Q' h q => by
    unfold gcMinA at q ⊢
    split at q
    · obtain ⟨bs, e, h0, q⟩ := q
      exact ⟨bs, e, h0, fun m hm hy => h _ _ (q m hm hy)⟩
    · obtain ⟨bs, e, h0, q⟩ := q
      exact ⟨bs, e, h0, fun m hm hy => h _ _ (q m hm hy)⟩
    · exact h _ _ q
    · exact q.elim
theorem ca_maxA (hc : X.calm = true) (hu : X.A.units + 1 < cLine) : CaD X (.builtin "max") gcMaxA where
  ex := ⟨_, (cr_max hc).or ((cr_maxT hc hu).or (call_max2 hc)), fun B E σ H r M O xs ds Q R ii q => by
    unfold gcMaxA at q
    split at q
    · obtain ⟨v, rfl, a, vs, rfl, h1, l1⟩ := isXL1 ii
      obtain ⟨bs, e, h0, q⟩ := q
      rw [of_intsOf l1 e] at h1
      exact .inl ⟨a, bs, rfl, SqL.of h1, h0, fun m hm hy => fin_v R (.int _) (q m hm hy)⟩
    · obtain ⟨v, rfl, a, vs, rfl, h1, l1⟩ := isXL1 ii
      obtain ⟨bs, e, h0, q⟩ := q
      rw [of_intsOf l1 e] at h1
      exact .inr (.inl ⟨a, bs, rfl, h1, h0, fun m hm hy => fin_v R (.int _) (q m hm hy)⟩)
    · obtain ⟨v, u, rfl, j1, j2⟩ := isXL2 ii
      rw [is1_int j1, is1_int j2]
      exact .inr (.inr ⟨_, _, rfl, fin_v R (.int _) q⟩)
    · exact q.elim⟩
  mono := fun d M Q Q' h q => by
    unfold gcMaxA at q ⊢
    split at q
    · obtain ⟨bs, e, h0, q⟩ := q
      exact ⟨bs, e, h0, fun m hm hy => h _ _ (q m hm hy)⟩
    · obtain ⟨bs, e, h0, q⟩ := q
      exact ⟨bs, e, h0, fun m hm hy => h _ _ (q m hm hy)⟩
    · exact h _ _ q
    · exact q.elim

/-! ### tuple * int, int * int -/
def rMulT1 (K : PySem.W.Frag) : R2 := fun x y H Q => ∃ l xs, x = .ref l ∧ y = .int 1 ∧ SqT K H l xs ∧ Q (.ref l) H
def rMulT0 (K : PySem.W.Frag) : R2 := fun x y H Q => ∃ l k xs, x = .ref l ∧ y = .int k ∧ SqT K H l xs ∧ xs ≠ [] ∧ k ≤ 0 ∧ -1000000 ≤ k ∧ Fz Q H []
theorem op_mulT1 : OpR X (binaryOp .Mult) (rMulT1 X.K) := by
  intro pins s σ H x y v u Q I rx ry h
  obtain ⟨l, xs, rfl, rfl, hT, q⟩ := h
  cases rx
  obtain ⟨t, rfl⟩ := ry
  obtain ⟨its, rv, ⟨⟨cls, dd, data, sl⟩, ho, hc, n, hd⟩, hz⟩ := I.tuple hT
  simp only at hc hd
  subst hc hd
  exact mul_decl (v := .none) ho (call_meets F.slot_tuple_mul ⟨_, ho, rfl⟩ F.entry_tuple_mul (F.args_tuple_mul_2 _ _) (dl_tuple_mul1 l its.toArray n dd sl 1 t (by decide) (by simp)) ⟨ho, .ref l, H, I, rfl, q⟩)
theorem op_mulT0 : OpR X (binaryOp .Mult) (rMulT0 X.K) := by
  intro pins s σ H x y v u Q I rx ry h
  obtain ⟨l, k, xs, rfl, rfl, hT, hne, h0, h1, q⟩ := h
  cases rx
  obtain ⟨t, rfl⟩ := ry
  obtain ⟨its, rv, ⟨⟨cls, dd, data, sl⟩, ho, hc, n, hd⟩, hz⟩ := I.tuple hT
  simp only at hc hd
  subst hc hd
  have hi : its.toArray.isEmpty = false := by
    cases its with
    | nil => cases rv; exact absurd rfl hne
    | cons a b => rfl
  refine mul_decl (v := .none) ho (call_meets F.slot_tuple_mul ⟨_, ho, rfl⟩ F.entry_tuple_mul (F.args_tuple_mul_2 _ _) (dl_tuple_mul0 l its.toArray n dd sl k t ?_ ?_ ?_) ⟨ho, ?_⟩)
  · rw [decide_eq_false (by omega), decide_eq_false (by omega)]; rfl
  · rw [hi, Bool.false_or]
    exact beq_eq_false_iff_ne.mpr (by omega)
  · rw [decide_eq_true h0]; rfl
  · exact laid_fz (k := s.toks) (us := []) I .nil (Nat.zero_le _) q
def repD (k : Int) (xs : List D) : List D := (List.replicate k.toNat xs).flatten
def goMulT : GO := fun d e M Q => match d, e with
  | .tup xs, .int k => (xs ≠ [] ∧ -1000000 ≤ k ∧ k ≤ 1000 ∧ xs.length ≤ 1000) ∧ Q (.tup (repD k xs)) M
  | _, _ => False
theorem IsL.rep {K : PySem.W.Frag} {A : Addr → Prop} {vs : List V} {ds : List D} (h : IsL K A H vs ds) : ∀ k : Nat, IsL K A H (List.replicate k vs).flatten (List.replicate k ds).flatten
  | 0 => .nil
  | k + 1 => by
    rw [List.replicate_succ, List.replicate_succ, List.flatten_cons, List.flatten_cons]
    exact h.append (IsL.rep h k)
theorem de_mulT (ha : DE true p X a ga) (hb : DE true p X b gb) : DE true p X (.BinOp a .Mult b pos) (g2 goMulT ga gb) := by
  have hop := (op_repF (X := X)).or ((op_mulT1 (X := X)).or op_mulT0)
  refine ⟨peI (pe_op hop ha.run hb.run) fun σ H Q ⟨B, E, r, M, O, R, q⟩ => ?_, fun r M Q Q' h q => ha.mono _ _ _ _ (fun d M1 q1 => hb.mono _ _ _ _ (fun e M2 q2 => ?_) q1) q⟩
  · refine ha.on R q fun d M1 v H1 O1 k1 R1 l1 i1 => ?_
    refine hb.on R1 k1 fun e M2 u H2 O2 k2 R2 l2 i2 => ?_
    have i1' : Is X.K (Av B M2 O2) H2 v d := Is.step l2.avs i1
    have i2' : Is X.K (Av B M2 O2) H2 u e := i2
    unfold goMulT at k2
    split at k2
    · rename_i xs k
      obtain ⟨⟨c1, c2, c3, c4⟩, k2⟩ := k2
      cases i2'
      cases i1' with
      | @tup l vs _ h l3 =>
        have hl := l3.length
        have vne : vs ≠ [] := fun z => by
          rw [z] at hl
          exact c1 (List.eq_nil_of_length_eq_zero hl.symm)
        by_cases e1 : k = 1
        · subst e1
          refine .inr (.inl ⟨l, vs, rfl, rfl, h.sq, k2 _ H2 O2 R2 (l1.trans l2) ?_⟩)
          show Is X.K (Av B M2 O2) H2 (.ref l) (.tup (List.replicate 1 xs).flatten)
          rw [List.replicate_one, List.flatten_singleton]
          exact .tup h l3
        · have fin : Fz Q H2 (List.replicate k.toNat vs).flatten := fun q o hd n => by
            have sm := same_upd (o := .frz o (.tup (List.replicate k.toNat vs).flatten)) n
            exact k2 _ _ O2 (R2.same sm) ((l1.trans l2).trans (Rl.of_same sm)) (.tup (.inl ⟨R2.m.fresh n, o, hd, upd_same⟩) (IsL.step (step_same sm fun _ z => z) (l3.rep k.toNat)))
          by_cases e2 : 2 ≤ k
          · exact .inl ⟨l, k, vs, rfl, rfl, h.sq, vne, e2, c3, by rw [hl]; exact c4, fin⟩
          · refine .inr (.inr ⟨l, k, vs, rfl, rfl, h.sq, vne, by omega, c2, ?_⟩)
            have f := fin
            rw [show k.toNat = 0 by omega] at f
            exact f
    · exact k2.elim
  · unfold goMulT at q2 ⊢
    split at q2
    · exact ⟨q2.1, h _ _ q2.2⟩
    · exact q2

/-! ### repr -/
def D.deep : D → Bool
  | .tup _ | .lst _ => true
  | _ => false
def gcRepr : GC := fun ds M Q => match ds with
  | [d] => (d.deep = true ∧ d.ok = true ∧ d.py.showable = true ∧ d.py.shown.length ≤ sizeLine) ∧ Q (.str d.py.shown) M
  | _ => False
mutual
theorem py_noDict : ∀ d : D, d.py.hasDict = false
  | .non => rfl
  | .bl _ => rfl
  | .int _ => rfl
  | .str _ => rfl
  | .ty _ => rfl
  | .ref _ => rfl
  | .dic _ => rfl
  | .tup xs => by simp only [D.py, PyData.hasDict]; exact pyL_noDict xs
  | .lst xs => by simp only [D.py, PyData.hasDict]; exact pyL_noDict xs
theorem pyL_noDict : ∀ ds : List D, PyData.hasDictAll (D.pyL ds) = false
  | [] => rfl
  | d :: r => by simp only [D.pyL, PyData.hasDictAll, py_noDict d, pyL_noDict r]; rfl
end
theorem ca_repr (hu : X.A.units + 66 < cLine) (hg : X.A.guards = some []) : CaD X (.builtin "repr") gcRepr where
  ex := ⟨fun vs H Q => ∃ (a : Addr) (d : PyData), vs = [.ref a] ∧ Dp X.K H (.ref a) d ∧ d.showable = true ∧ d.hasDict = false ∧ d.depth ≤ 64 ∧ d.shown.length ≤ sizeLine ∧ Q (.str d.shown) H, fun pins s σ H vs us Q I r h => by
      obtain ⟨a, d, rfl, dp, hs, hd, h64, hz, q⟩ := h
      rw [Vals.ref1 r]
      obtain ⟨as, rd⟩ := Dp.reads I d _ (.ref a) dp rfl
      exact repr_of_reads' rd hs (fun z => by rw [hd] at z; cases z) hg (by omega) (fun _ _ e => e) (fun h' u tk hk => ⟨.str _, H, I.kept hk, ⟨u, rfl⟩, q⟩) hz, fun B E σ H r M O xs ds Q R ii q => by
    unfold gcRepr at q
    split at q
    · rename_i d
      obtain ⟨⟨q1, q2, q3, q4⟩, q5⟩ := q
      obtain ⟨v, rfl, i⟩ := isXL1 ii
      have hok := ok_and q2
      have sh : (PyData.canLay0 d.py && decide (PyData.depth d.py ≤ 64)) = true := hok.2
      have h64 := of_decide_eq_true (Bool.and_eq_true_iff.mp sh).2
      cases d with
      | tup ds => 
        obtain ⟨a, vs, rfl, _⟩ := id i
        exact ⟨a, _, rfl, Is1.dp i hok.1, q3, py_noDict _, h64, q4, fin_v R (.str _) q5⟩
      | lst ds =>
        obtain ⟨a, vs, rfl, _⟩ := id i
        exact ⟨a, _, rfl, Is1.dp i hok.1, q3, py_noDict _, h64, q4, fin_v R (.str _) q5⟩
      | _ => cases q1
    · exact q.elim⟩
  mono := fun d M Q Q' h q => by
    unfold gcRepr at q ⊢
    split at q
    · exact ⟨q.1, h _ _ q.2⟩
    · exact q.elim
end
end DL

set_option Elab.async false
set_option linter.all false
set_option maxRecDepth 100000
/-! DL17b: xs[::-1] of lists and of tuples. -/
namespace DLR
open PySem PySem.Spec PySem.Calls PyProof.Rows HT
variable {prog : Program} {w : World} {A : Around} {E : Value → Shared → Prop} {s : Shared}
theorem adj_rev (n : Nat) : Builtin.Slice.sliceAdjust none none (-1) (n : Int) = ((n : Int) - 1, -1) := by
  unfold Builtin.Slice.sliceAdjust
  simp
theorem pl_rev (n : Nat) : Builtin.Slice.slicePlaces ((n : Int) - 1) (-1) (-1) = n := by
  unfold Builtin.Slice.slicePlaces
  rw [if_neg (by decide)]
  by_cases h : (n : Int) - 1 > -1
  · rw [if_pos h, show ((n : Int) - 1 - -1 - 1) = n - 1 by omega, show (- -1 : Int) = 1 by decide, Int.ediv_one]
    omega
  · rw [if_neg h]
    omega
theorem fm_congr {α β : Type} {f g : α → Option β} : ∀ l : List α, (∀ x ∈ l, f x = g x) → l.filterMap f = l.filterMap g
  | [], _ => rfl
  | x :: l, h => by
    rw [List.filterMap_cons, List.filterMap_cons, h x (List.mem_cons_self ..), fm_congr l fun y hy => h y (List.mem_cons_of_mem _ hy)]
theorem pick_rev (xs : Array Value) : ((List.range xs.size).filterMap fun (k : Nat) => xs[((xs.size : Int) - 1 + (k : Int) * (-1)).toNat]?).toArray = xs.toList.reverse.toArray := by
  have e : (List.range xs.size).filterMap (fun (k : Nat) => xs[((xs.size : Int) - 1 + (k : Int) * (-1)).toNat]?) = ((List.range xs.size).map fun k => xs.size - 1 - k).filterMap (xs[·]?) := by
    rw [List.filterMap_map]
    refine fm_congr _ fun k hk => ?_
    have := List.mem_range.mp hk
    show xs[((xs.size : Int) - 1 + (k : Int) * (-1)).toNat]? = xs[xs.size - 1 - k]?
    congr 1
    omega
  rw [e, PySem.W.krv_range, List.filterMap_reverse, PySem.W.krv_all]
theorem applied_rev {sl : Addr} {vs : Value} {n : Nat} {Q : Int × Int × Nat → Shared → Prop} (hs : s.heap.IsSliceOf sl .none .none vs) (ps : IsPart vs (some (-1))) (h : Q ((n : Int) - 1, -1, n) s) : wpAny (model prog w) A (Builtin.Slice.sliceApplied (.ref sl) (pure (n : Int))) Q E s := by
  obtain ⟨os, hos, hcs, hds⟩ := id hs
  unfold Builtin.Slice.sliceApplied Builtin.Slice.sliceFields
  refine wpAny_bind (wpAny_bind (wpAny_field hos hds (x := .none) rfl (wpAny_bind (wpAny_field hos hds (x := .none) rfl (wpAny_bind (wpAny_field hos hds (x := vs) rfl (wpAny_pure ?_)))))))
  refine wpAny_bind (slicePart_ ps ?_)
  show wpAny _ _ (if ((-1 : Int) == 0) = true then _ else _) _ _ s
  rw [if_neg (by decide)]
  refine wpAny_bind (slicePart_none (wpAny_bind (slicePart_none (wpAny_bind (wpAny_pure ?_)))))
  show wpAny _ _ (match Builtin.Slice.sliceAdjust none none (-1) (n : Int) with | (lo, hi) => pure (lo, (-1 : Int), Builtin.Slice.slicePlaces lo hi (-1))) _ _ s
  rw [adj_rev n]
  show wpAny _ _ (pure ((n : Int) - 1, (-1 : Int), Builtin.Slice.slicePlaces ((n : Int) - 1) (-1) (-1))) _ _ s
  rw [pl_rev]
  exact wpAny_pure h
theorem item_rev {t sl : Addr} {items : Array Value} {vs : Value} {Q : Value → Shared → Prop} (ht : IsTup s.heap t items) (hs : s.heap.IsSliceOf sl .none .none vs) (ps : IsPart vs (some (-1)))
    (h : Q (.ref s.heap.objs.size) { s with heap := s.heap.push { cls := .type "tuple", data := .seq items.toList.reverse.toArray } }) (hsz : items.size ≤ sizeLine) : wpAny (model prog w) A (getItem (.ref t) (.ref sl)) Q E s := by
  have hok : sizeOk (.seq items.toList.reverse.toArray) := by
    show items.toList.reverse.toArray.size ≤ sizeLine
    rw [List.size_toArray, List.length_reverse, Array.length_toList]
    exact hsz
  obtain ⟨os, hos, hcs, hds⟩ := id hs
  have hTs : s.TypeIs (.ref sl) "slice" := ⟨os, hos, hcs⟩
  unfold getItem
  try with_reducible refine wpAny_holding ?_
  first | refine wpAny_bind (wpAny_pure ?_) | skip
  refine wpAny_bind (wpAny_sequenceKey ht.typeIs (by decide) ?_)
  refine wpAny_bind (wpAny_callSpecial?_slot (name := Str.ofString "__getitem__") ht.typeIs PyProof.Rows.slot_tuple_getitem (wpAny_call_entry PyProof.Rows.slot_tuple_getitem ht.typeIs entry_tuple_getitem ?_ (args_tuple_getitem _ _)))
  show wpAny _ _ (Builtin.Tuple.tupleItemsOf (.ref t) >>= _) _ _ s
  refine wpAny_bind (tupleItemsOf_ ht ?_)
  refine wpAny_bind (wpAny_typeOf hTs ?_)
  rw [if_pos (by decide)]
  refine wpAny_bind (applied_rev hs ps ?_)
  have hno : ¬ ((((items.size : Int) - 1) == 0 && (-1 : Int) == 1 && items.size == items.size) = true) := by
    rw [show ((-1 : Int) == 1) = false by decide, Bool.and_false, Bool.false_and]
    exact Bool.false_ne_true
  show wpAny _ _ (if (((items.size : Int) - 1) == 0 && (-1 : Int) == 1 && items.size == items.size) = true then _ else _) _ _ s
  rw [if_neg hno, pick_rev]
  first
    | exact wpAny_bind (m := Builtin.Tuple.tupleExact _) (wpAny_newObj_type (wpAny_pure ⟨_, rfl, wpAny_pure h⟩) hok)
    | exact wpAny_bind (m := Builtin.Tuple.tupleExact _) (wpAny_newObj_type (wpAny_bind (wpAny_pure (wpAny_pure ⟨_, rfl, wpAny_pure h⟩))) hok)
    | exact wpAny_bind (wpAny_bind (m := Builtin.Tuple.tupleExact _) (wpAny_newObj_type (wpAny_pure (wpAny_pure ⟨_, rfl, wpAny_pure h⟩)) hok))
    | exact wpAny_bind (wpAny_bind (m := Builtin.Tuple.tupleExact _) (wpAny_newObj_type (wpAny_pure ⟨_, rfl, wpAny_pure h⟩) hok))
end DLR
namespace DL
open PySem PySem.Spec PyProof.Rows L2
def tRevA (K : PySem.W.Frag) (te : TE) : TE := fun σ H Q => te σ H fun x H1 => ∃ a xs, x = .ref a ∧ ((SqL K H1 a xs ∧ ∀ p, H1 p = none → Q (.ref p) (upd H1 p (.lst xs.reverse))) ∨ (SqT K H1 a xs ∧ Fz Q H1 xs.reverse))
theorem pe_revA {X : Cx} {e : Expr} {te : TE} {k : Nat} {p1 p2 p3 pos : Pos} (he : PE X e te) : PE X (.Subscript e (.Slice none none (some (.UnaryOp .USub (.Constant (.int 1) k p1) p2)) p3) pos) (tRevA X.K te) := by
  refine ⟨fun pins s σ H Q I h => Subscript_ (thn (he.run pins s σ H _ I h) fun v s1 ⟨x, H1, I1, r1, a, xs, ex, q⟩ => ?_)⟩
  subst ex
  cases r1
  have hst : PO X (some (.UnaryOp .USub (.Constant (.int 1) k p1) p2)) (tPart (tUn (rU fun i => .int (-i)) (tC (.int 1)))) := po_some (pe_un un_neg pe_int)
  refine wpAny_Slice (thn (po_none.run pins s1 σ H1 (fun o H2 => o = none ∧ H2 = H1) I1 ⟨rfl, rfl⟩) fun vl s2 ⟨l, H2, I2, pl, el, e2⟩ => ?_)
  subst el; subst e2
  refine thn (po_none.run pins s2 σ H2 (fun o H3 => o = none ∧ H3 = H2) I2 ⟨rfl, rfl⟩) fun vu s3 ⟨u, H3, I3, pu, eu, e3⟩ => ?_
  subst eu; subst e3
  refine thn (hst.run pins s3 σ H3 (fun o H4 => o = some (-1) ∧ H4 = H3) I3 ⟨1, rfl, -1, rfl, rfl, rfl⟩) fun vs s4 ⟨o, H4, I4, ps, eo, e4⟩ => ?_
  subst eo; subst e4
  have I5 : Inv X pins σ H4 { s4 with heap := s4.heap.push { cls := .type "slice", data := .fields #[vl, vu, vs] } } := I4.kept (t' := s4.toks) fun b ob q => Heap.get?_push_of_some _ q
  show wpAny (model X.prog X.w) X.A (subscriptTail e (.Slice none none (some (.UnaryOp .USub (.Constant (.int 1) k p1) p2)) p3) (.ref a) (.ref s4.heap.objs.size)) (EP X pins σ Q) X.xe { s4 with heap := s4.heap.push { cls := .type "slice", data := .fields #[vl, vu, vs] } }
  rcases q with ⟨hx, q⟩ | ⟨hx, q⟩
  · obtain ⟨its, r, ht, hz⟩ := I5.list hx
    have hlen := r.length
    refine tail_any (ops := [.ref a, .ref s4.heap.objs.size]) ht.isList.typeIs (PySem.slot_list_getitem.lookup) ?_ (by with_unfolding_all rfl)
    refine wpAny_getItem_list_slice ht.isList (Heap.IsSliceOf.new _ vl vu vs) pl pu ps (by decide) ?_ (by rw [List.size_toArray]; omega)
    rw [PySem.W.krv_pick]
    exact ⟨.ref _, _, I5.laid (t' := s4.toks) (o := .lst xs.reverse) (fun b ob q => Heap.get?_push_of_some _ q) (Nat.le_refl _) ⟨by rw [List.length_reverse]; exact hz, _, 0, r.reverse, Heap.get?_push_size _ rfl⟩, rfl, q _ (I5.hok.fresh (Nat.le_refl _))⟩
  · obtain ⟨its, r, ht, hz⟩ := I5.tuple hx
    have hlen := r.length
    refine tail_any (ops := [.ref a, .ref s4.heap.objs.size]) ht.typeIs (PyProof.Rows.slot_tuple_getitem.lookup) ?_ (by with_unfolding_all rfl)
    cases pl
    cases pu
    refine DLR.item_rev ht (Heap.IsSliceOf.new _ _ _ vs) ps ?_ (by rw [List.size_toArray]; omega)
    exact laid_fz (k := s4.toks) I5 r.reverse (by rw [List.length_reverse]; exact hz) q
section
variable {X : Cx} {w p : Bool} {a : Expr} {ga : GE} {pos : Pos}
/-- xs[::-1] -/
def goRevA : GU := fun d M Q => match d with
  | .lst xs => Q (.lst xs.reverse) M
  | .tup xs => Q (.tup xs.reverse) M
  | _ => False
theorem de_revA {k : Nat} {p1 p2 p3 : Pos} (ha : DE w p X a ga) : DE true p X (.Subscript a (.Slice none none (some (.UnaryOp .USub (.Constant (.int 1) k p1) p2)) p3) pos) (g1 goRevA ga) := by
  refine ⟨peI (pe_revA ha.run) fun σ H Q ⟨B, E, r, M, O, R, q⟩ => ?_, fun r M Q Q' h q => ha.mono r M _ _ (fun d M1 q1 => ?_) q⟩
  · refine ha.on R q fun d M1 v H1 O1 k1 R1 l1 i1 => ?_
    unfold goRevA at k1
    split at k1
    · obtain ⟨a, vs, rfl, h1, l1'⟩ := i1.one
      exact ⟨a, vs, rfl, .inl ⟨SqL.of h1, fin_lst R1 l1'.reverse (LE.go l1 k1)⟩⟩
    · obtain ⟨a, vs, rfl, h1, l1'⟩ := i1.one
      exact ⟨a, vs, rfl, .inr ⟨h1, fin_tup R1 l1'.reverse (LE.go l1 k1)⟩⟩
    · exact k1.elim
  · unfold goRevA at q1 ⊢
    split at q1
    · exact h _ _ q1
    · exact h _ _ q1
    · exact q1.elim
end
end DL

set_option Elab.async false
set_option linter.all false
set_option maxRecDepth 100000
/-! DL18: short names for a printed derivation; promises by a function. -/
namespace DL
open PySem PySem.Spec PySem.W PyProof.Rows L2

abbrev goSub : GO := goI (fun _ _ => True) fun i j => .int (i - j)
abbrev goMod : GO := goI (fun _ j => 0 < j) fun i j => .int (i % j)
abbrev goFdiv : GO := goI CDivW fun i j => .int (i / j)
abbrev goPow : GO := goI CPow fun i j => .int (i ^ j.toNat)
abbrev goMulI : GO := goI CMul fun i j => .int (i * j)
abbrev goLt : GO := goI (fun _ _ => True) fun i j => .bl (decide (i < j))
abbrev goLe : GO := goI (fun _ _ => True) fun i j => .bl (decide (i ≤ j))
abbrev goGt : GO := goI (fun _ _ => True) fun i j => .bl (decide (j < i))
abbrev goGe : GO := goI (fun _ _ => True) fun i j => .bl (decide (j ≤ i))
abbrev guNeg : GU := guI fun i => .int (-i)
abbrev gcAll : GC := gcBls fun bs => bs.all _root_.id
abbrev gcAny : GC := gcBls fun bs => bs.any _root_.id
abbrev gcAbs : GC := gcI1 fun i => .int (if i < 0 then -i else i)
theorem hu_ {A : Around} {k : Nat} (hr : Room k A) {n : Nat} (h : n ≤ 200 := by decide) : A.units + n < cLine := by have := hr.un; omega
/-- t < u, tuples of ints -/
def goLtT : GO := fun d e M Q => match d, e with
  | .tup xs, .tup ys => ∃ ns ms, intsOf xs = some ns ∧ intsOf ys = some ms ∧ Q (.bl (HT.lexLt ns ms)) M
  | _, _ => False
theorem od_ltT {X : Cx} (hu : X.A.units < cLine) : OpD X (compareOp .Lt) goLtT where
  ex := ⟨_, op_ltT hu, fun B E σ H r M O x y d e Q R i1 i2 q => by
    unfold goLtT at q
    split at q
    · obtain ⟨a, vs, rfl, h1, l1⟩ := i1
      obtain ⟨b, us, rfl, h2, l2⟩ := i2
      obtain ⟨ns, ms, e1, e2, q⟩ := q
      rw [of_intsOf l1 e1] at h1
      rw [of_intsOf l2 e2] at h2
      exact ⟨a, b, ns, ms, rfl, rfl, h1, h2, fin_v R (.bl _) q⟩
    · exact q.elim⟩
  mono := fun d e M Q Q' h q => by
    unfold goLtT at q ⊢
    split at q
    · obtain ⟨ns, ms, e1, e2, q⟩ := q
      exact ⟨ns, ms, e1, e2, h _ _ q⟩
    · exact q

section
variable {X : Cx} {p : Bool} {tg iter elt : Expr} {ifs : List Expr} {scope : Scope} {own : List (Str × Nat)} {ws : List Nat} {gi : GI} {gt : GG} {gtt : GT} {ge : GE} {pos : Pos}
theorem df_comp (hc : X.calm = true) (hN : X.N.Nodup) (hi : DI p X tg iter gi) (ok : BlkOk X.N X.env.scope scope own)
    (hg : ∀ (s : Shared) (H : Hp) (C : Addr) (cl : List (Str × Addr)) (fp : List Addr), DT' (X.blk s H scope (compEnvC scope cl C X.env) fp) tg ws gt)
    (ht : ∀ (s : Shared) (H : Hp) (C : Addr) (cl : List (Str × Addr)) (fp : List Addr), DTts p (X.blk s H scope (compEnvC scope cl C X.env) fp) ifs gtt)
    (he : ∀ (s : Shared) (H : Hp) (C : Addr) (cl : List (Str × Addr)) (fp : List Addr), DE true p (X.blk s H scope (compEnvC scope cl C X.env) fp) elt ge)
    (hws : ∀ j ∈ ws, j ∈ own.map (·.2) := by decide) (hs : ∀ x, foldedSetIterable iter X.env x = pure x := by intro _; rfl) : DF p X (.ListComp elt [⟨tg, iter, ifs, 0⟩] scope pos) (gLc gi gt gtt ge (own.map (·.2))) :=
  df_lc hc hN hi ok hg ht he (hg X.s_0 X.H_0 0 [] []).p.mono (ht X.s_0 X.H_0 0 [] []).mono (he X.s_0 X.H_0 0 [] []).mono (hg X.s_0 X.H_0 0 [] []).s hws hs
/-- x = [..] on one line: the list is the slot's own -/
theorem ds_ownC (i : Nat) {y : Str} {py spos : Pos} (hc : X.calm = true) (hN : X.N.Nodup) (hi : DI p X tg iter gi) (ok : BlkOk X.N X.env.scope scope own)
    (hg : ∀ (s : Shared) (H : Hp) (C : Addr) (cl : List (Str × Addr)) (fp : List Addr), DT' (X.blk s H scope (compEnvC scope cl C X.env) fp) tg ws gt)
    (ht : ∀ (s : Shared) (H : Hp) (C : Addr) (cl : List (Str × Addr)) (fp : List Addr), DTts p (X.blk s H scope (compEnvC scope cl C X.env) fp) ifs gtt)
    (he : ∀ (s : Shared) (H : Hp) (C : Addr) (cl : List (Str × Addr)) (fp : List Addr), DE true p (X.blk s H scope (compEnvC scope cl C X.env) fp) elt ge)
    (hws : ∀ j ∈ ws, j ∈ own.map (·.2) := by decide) (hs : ∀ x, foldedSetIterable iter X.env x = pure x := by intro _; rfl)
    (hi' : X.N[i]? = some y := by rfl) (hy : X.env.scope.names.lookup y = some .local := by rfl) (hsw : swapsWith (.ListComp elt [⟨tg, iter, ifs, 0⟩] scope pos) (some (.Name y py)) spos.line X.env = pure true := by rfl) :
    DS X (.Assign [.Name y py] (.ListComp elt [⟨tg, iter, ifs, 0⟩] scope pos) spos) (gOwn i (gLc gi gt gtt ge (own.map (·.2)))) := by
  have hgm := (hg X.s_0 X.H_0 0 [] []).p.mono
  have htm := (ht X.s_0 X.H_0 0 [] []).mono
  have hem := (he X.s_0 X.H_0 0 [] []).mono
  have hm := gLc_mono (vs := own.map (·.2)) hi hgm htm hem
  refine ⟨psI (ds_lc i hc hN hi ok hg ht he hgm htm hem (hg X.s_0 X.H_0 0 [] []).s hws hs hi' hy hsw) fun D σ H ⟨B, E, r, M, O, R, q⟩ => ⟨B, E, r, M, O, R, hm r M (fun m M1 => (LS X B E D).nx (r.set i (.o m)) M1) _ (fun m M1 k1 a H1 O1 N1 l1 i1 => k1 _ H1 _ (N1.toSlot i i1)) q⟩, fun D D' r M l q => hm r M (fun m M1 => D.nx (r.set i (.o m)) M1) (fun m M1 => D'.nx (r.set i (.o m)) M1) (fun m M1 q1 => l.nx _ _ q1) q⟩
/-- .. and data -/
theorem ds_setC (i : Nat) {y : Str} {py spos : Pos} (hc : X.calm = true) (hN : X.N.Nodup) (hi : DI p X tg iter gi) (ok : BlkOk X.N X.env.scope scope own)
    (hg : ∀ (s : Shared) (H : Hp) (C : Addr) (cl : List (Str × Addr)) (fp : List Addr), DT' (X.blk s H scope (compEnvC scope cl C X.env) fp) tg ws gt)
    (ht : ∀ (s : Shared) (H : Hp) (C : Addr) (cl : List (Str × Addr)) (fp : List Addr), DTts p (X.blk s H scope (compEnvC scope cl C X.env) fp) ifs gtt)
    (he : ∀ (s : Shared) (H : Hp) (C : Addr) (cl : List (Str × Addr)) (fp : List Addr), DE true p (X.blk s H scope (compEnvC scope cl C X.env) fp) elt ge)
    (hws : ∀ j ∈ ws, j ∈ own.map (·.2) := by decide) (hs : ∀ x, foldedSetIterable iter X.env x = pure x := by intro _; rfl)
    (hi' : X.N[i]? = some y := by rfl) (hy : X.env.scope.names.lookup y = some .local := by rfl) (hsw : swapsWith (.ListComp elt [⟨tg, iter, ifs, 0⟩] scope pos) (some (.Name y py)) spos.line X.env = pure true := by rfl) :
    DS X (.Assign [.Name y py] (.ListComp elt [⟨tg, iter, ifs, 0⟩] scope pos) spos) (gSet i (gFd (gLc gi gt gtt ge (own.map (·.2))))) := by
  have hgm := (hg X.s_0 X.H_0 0 [] []).p.mono
  have htm := (ht X.s_0 X.H_0 0 [] []).mono
  have hem := (he X.s_0 X.H_0 0 [] []).mono
  have hm := gLc_mono (vs := own.map (·.2)) hi hgm htm hem
  refine ⟨psI (ds_lc i hc hN hi ok hg ht he hgm htm hem (hg X.s_0 X.H_0 0 [] []).s hws hs hi' hy hsw) fun D σ H ⟨B, E, r, M, O, R, q⟩ => ⟨B, E, r, M, O, R, hm r M (fun m M1 => match m with | .lst ds => (LS X B E D).nx (r.set i (.v (.lst ds))) M1 | .dic _ => False) _ (fun m M1 k1 a H1 O1 N1 l1 i1 => by
    cases m with
    | lst ds => exact k1 _ H1 _ (N1.any.setv i (N1.is i1))
    | dic ds => exact k1.elim) q⟩, fun D D' r M l q => hm r M (fun m M1 => match m with | .lst ds => D.nx (r.set i (.v (.lst ds))) M1 | .dic _ => False) (fun m M1 => match m with | .lst ds => D'.nx (r.set i (.v (.lst ds))) M1 | .dic _ => False) (fun m M1 q1 => by
    cases m with
    | lst ds => exact l.nx _ _ q1
    | dic ds => exact q1) q⟩
end

/-! ### promises by a function -/
/-- pure: what it answers -/
def PureF (pre : List D → Prop) (f : List D → D) : FS := fun ds M Q _ => pre ds ∧ Q (f ds) M
theorem pureF_mono {pre : List D → Prop} {f : List D → D} : MonoF (PureF pre f) := fun _ _ _ _ _ _ h _ q => ⟨q.1, h _ _ q.2⟩
/-- pure, it may refuse -/
def PureX (pre : List D → Prop) (f : List D → Except Addr D) : FS := fun ds M Q X => pre ds ∧ match f ds with
  | .ok d => Q d M
  | .error C => X C M
theorem pureX_mono {pre : List D → Prop} {f : List D → Except Addr D} : MonoF (PureX pre f) := fun ds _ _ _ _ _ h h2 q => ⟨q.1, by
  have q2 := q.2
  split at q2
  · exact h _ _ q2
  · exact h2 _ _ q2⟩
/-- with memory: what is true of the answer -/
def MemF (pre : List D → Mem → Prop) (post : List D → Mem → D → Mem → Prop) : FS := fun ds M Q _ => pre ds M ∧ ∀ d M', post ds M d M' → Q d M'
theorem memF_mono {pre : List D → Mem → Prop} {post : List D → Mem → D → Mem → Prop} : MonoF (MemF pre post) := fun _ _ _ _ _ _ h _ q => ⟨q.1, fun d M' p => h _ _ (q.2 d M' p)⟩
/-- drawn: the state at ds[0], memory as it was -/
def DrawF (pre : List D → Prop) (post : List D → D → Prop) : FS := fun ds M Q _ => (∃ a r, ds = .ref a :: r ∧ M a = some .st ∧ pre r ∧ ∀ d, post r d → Q d M)
theorem drawF_mono {pre : List D → Prop} {post : List D → D → Prop} : MonoF (DrawF pre post) := fun _ _ _ _ _ _ h _ ⟨a, r, e, m, p, q⟩ => ⟨a, r, e, m, p, fun d z => h _ _ (q d z)⟩

/-! ### the drawing's defs, from their raw promises -/
/-- raw: the state's dict stands open -/
def RawF (pre : List D → Prop) (post : List D → D → Prop) : FS := fun ds M Q _ => ∃ a r kds, ds = .ref a :: r ∧ M a = some (.om (.dic kds)) ∧ StOk kds ∧ pre r ∧ ∀ d kds', post r d → StOk kds' → Q d (mup M a (.om (.dic kds')))
theorem rawF_mono {pre : List D → Prop} {post : List D → D → Prop} : MonoF (RawF pre post) := fun _ _ _ _ _ _ h _ ⟨a, r, k, e, m, s, p, q⟩ => ⟨a, r, k, e, m, s, p, fun d kds z z2 => h _ _ (q d kds z z2)⟩
theorem ArgsOk.same {K : PySem.W.Frag} {A U U' : Addr → Prop} {H : Hp} (hU : U = U') {ks : List AK} {vs : List V} {ds : List D} (h : ArgsOk K A U H ks vs ds) : ArgsOk K A U' H ks vs ds := by rw [← hU]; exact h
theorem Def.draw {P : Program} {w : World} {K : PySem.W.Frag} {mg : Str → Option Value} {base : Heap} {n : Nat} {x : Str} {ps : List Str} {ks : List AK} {pre : List D → Prop} {post : List D → D → Prop}
    (h : Def P w K mg base n x ps ks (RawF pre post)) : Def P w K mg base n x ps ks (DrawF pre post) := by
  obtain ⟨f, fd, F, hm, hk, hb⟩ := h.ex
  refine ⟨⟨f, fd, F.imp fun vs H Q E q => ?_, hm, hk, hb⟩, drawF_mono⟩
  obtain ⟨B, M, O, ds, m, fl, ha, a, r, rfl, ms, hp, q⟩ := q
  obtain ⟨kds, ok, m2⟩ := st_open m ms
  have nm : M a ≠ none := by rw [ms]; simp
  refine ⟨B, mup M a (.om (.dic kds)), O, _, m2, fl, ?_, a, r, kds, rfl, mup_same, ok, hp, fun d kds' hd ok' v H' O' m' fl' st i => ?_⟩
  · rw [av_mup nm, mut_mup nm]
    exact ha
  · rw [mup_mup] at m' st i
    have m3 := st_close m' ok'
    have e1 : mup M a .st = M := mup_self ms
    rw [e1] at m3
    rw [mut_mup nm, mut_mup nm] at st
    rw [av_mup nm] at i
    exact q d hd v H' O' m3 fl' st i
/-- the state is made -/
def BegunF : FS := fun ds M Q _ => ∃ ns : List Int, ds = [.lst (ns.map .int)] ∧ ns.length ≤ 63 ∧ ∀ a, M a = none → Q (.ref a) (mup M a .st)
theorem begunF_mono : MonoF BegunF := fun _ _ _ _ _ _ h _ ⟨ns, e, hl, q⟩ => ⟨ns, e, hl, fun a n => h _ _ (q a n)⟩
def BegunR : FS := fun ds M Q _ => ∃ ns : List Int, ds = [.lst (ns.map .int)] ∧ ns.length ≤ 63 ∧ ∀ a kds, M a = none → StOk kds → Q (.ref a) (mup M a (.om (.dic kds)))
theorem begunR_mono : MonoF BegunR := fun _ _ _ _ _ _ h _ ⟨ns, e, hl, q⟩ => ⟨ns, e, hl, fun a kds n z => h _ _ (q a kds n z)⟩
theorem Def.begun {P : Program} {w : World} {K : PySem.W.Frag} {mg : Str → Option Value} {base : Heap} {n : Nat} {x : Str} {ps : List Str} {ks : List AK} (h : Def P w K mg base n x ps ks BegunR) : Def P w K mg base n x ps ks BegunF := by
  obtain ⟨f, fd, F, hm, hk, hb⟩ := h.ex
  refine ⟨⟨f, fd, F.imp fun vs H Q E q => ?_, hm, hk, hb⟩, begunF_mono⟩
  obtain ⟨B, M, O, ds, m, fl, ha, ns, rfl, hl, q⟩ := q
  refine ⟨B, M, O, _, m, fl, ha, ns, rfl, hl, fun a kds na ok v H' O' m' fl' st i => ?_⟩
  have m3 := st_close m' ok
  refine q a na v H' O' m3 fl' ?_ ?_
  · rw [mut_mupN] at st ⊢
    exact st
  · rw [av_mupN] at i ⊢
    exact i
end DL

set_option Elab.async false
set_option linter.all false
/-! DL19: comprehensions and loops over data; facts of data. -/
namespace DL
open PySem PySem.Spec PySem.W PyProof.Rows L2
section
variable {gt : GG} {gtt : GT} {ge : GE} {r : DL.Fr} {M : Mem} {Q : List D → Mem → Prop}
theorem lc_map (f : D → D) : ∀ {ds acc : List D}, (∀ d ∈ ds, ∀ Q' : D → Mem → Prop, Q' (f d) M → gt d r M fun r1 M1 => ge r1 M1 Q') → acc.length + ds.length ≤ sizeLine → Q (acc ++ ds.map f) M → lcD gt gYes ge r ds acc M Q
  | [], acc, _, _, q => by
    show Q acc M
    simpa using q
  | d :: ds, acc, h, hz, q => by
    have hz' : acc.length + (ds.length + 1) ≤ sizeLine := hz
    refine h d (List.mem_cons_self ..) _ ⟨by omega, lc_map f (fun x hx => h x (List.mem_cons_of_mem _ hx)) ?_ ?_⟩
    · rw [List.length_append, List.length_cons, List.length_nil]; omega
    · rw [List.append_assoc]; exact q
theorem lc_each {P : D → Prop} : ∀ {ds acc : List D}, (∀ d ∈ ds, ∀ Q' : D → Mem → Prop, (∀ x, P x → Q' x M) → gt d r M fun r1 M1 => ge r1 M1 Q') → acc.length + ds.length ≤ sizeLine →
    (∀ xs : List D, xs.length = ds.length → (∀ x ∈ xs, P x) → Q (acc ++ xs) M) → lcD gt gYes ge r ds acc M Q
  | [], acc, _, _, q => by
    show Q acc M
    simpa using q [] rfl (by simp)
  | d :: ds, acc, h, hz, q => by
    have hz' : acc.length + (ds.length + 1) ≤ sizeLine := hz
    refine h d (List.mem_cons_self ..) _ fun x hx => ⟨by omega, lc_each (fun y hy => h y (List.mem_cons_of_mem _ hy)) ?_ fun xs hl hp => ?_⟩
    · rw [List.length_append, List.length_cons, List.length_nil]; omega
    · rw [List.append_assoc]
      exact q (x :: xs) (congrArg (· + 1) hl) fun y hy => by
        rcases List.mem_cons.mp hy with rfl | hy
        · exact hx
        · exact hp y hy
theorem lc_filter (c : D → Bool) (f : D → D) : ∀ {ds acc : List D},
    (∀ d ∈ ds, ∀ Q' : D → Mem → Prop, ∀ P' : Mem → Prop, (c d = true → Q' (f d) M) → (c d = false → P' M) → gt d r M fun r1 M1 => gtt r1 M1 fun b M2 => if b = true then ge r1 M2 Q' else P' M2) →
    acc.length + ds.length ≤ sizeLine → Q (acc ++ (ds.filter c).map f) M → lcD gt gtt ge r ds acc M Q
  | [], acc, _, _, q => by
    show Q acc M
    simpa using q
  | d :: ds, acc, h, hz, q => by
    have hz' : acc.length + (ds.length + 1) ≤ sizeLine := hz
    refine h d (List.mem_cons_self ..) (fun x M3 => acc.length < sizeLine ∧ lcD gt gtt ge r ds (acc ++ [x]) M3 Q) (fun M2 => lcD gt gtt ge r ds acc M2 Q) (fun e => ⟨by omega, lc_filter c f (fun x hx => h x (List.mem_cons_of_mem _ hx)) ?_ ?_⟩) fun e => lc_filter c f (fun x hx => h x (List.mem_cons_of_mem _ hx)) (by omega) ?_
    · rw [List.length_append, List.length_cons, List.length_nil]; omega
    · rw [List.append_assoc]
      rw [List.filter_cons_of_pos e] at q
      exact q
    · rw [List.filter_cons_of_neg (by rw [e]; simp)] at q
      exact q
end
theorem atI_in {α : Type} {xs : List α} {i : Int} (h0 : 0 ≤ i) (h1 : i < xs.length) : ∃ z, atI xs i = some z ∧ z ∈ xs ∧ xs[i.toNat]? = some z := by
  have hl : i.toNat < xs.length := by omega
  refine ⟨xs[i.toNat], ?_, List.getElem_mem hl, List.getElem?_eq_getElem hl⟩
  unfold atI ixN
  rw [if_pos h0, if_pos h1]
  exact List.getElem?_eq_getElem hl
theorem atI_nat {α : Type} {xs : List α} {i : Int} {z : α} (h0 : 0 ≤ i) (h : xs[i.toNat]? = some z) : atI xs i = some z := by
  obtain ⟨hl, _⟩ := List.getElem?_eq_some_iff.mp h
  unfold atI ixN
  rw [if_pos h0, if_pos (show i < xs.length by omega)]
  exact h
theorem atI_ints {ns : List Int} {i : Int} (h0 : 0 ≤ i) (h1 : i < ns.length) : atI (ns.map D.int) i = some (.int (ns.getD i.toNat 0)) := by
  have hl : i.toNat < ns.length := by omega
  refine atI_nat h0 ?_
  rw [List.getElem?_map, List.getElem?_eq_getElem hl, List.getD_eq_getElem?_getD, List.getElem?_eq_getElem hl]
  rfl
theorem eqv_int (a b : Int) : D.eqv (.int a) (.int b) = decide (a = b) := by
  simp only [D.eqv, D.py, PyData.eqv]
  by_cases h : a = b
  · simp [h]
  · simp [h]
theorem ok_int (a : Int) : D.ok (.int a) = true := rfl
theorem lay_ints : ∀ ns : List Int, PyData.canLayAll0 (D.pyL (ns.map D.int)) = true
  | [] => rfl
  | n :: r => by simp only [List.map_cons, D.pyL, D.py, PyData.canLayAll0, PyData.canLay0, lay_ints r]; rfl
theorem dep_ints : ∀ ns : List Int, PyData.depthAll (D.pyL (ns.map D.int)) = 0
  | [] => rfl
  | n :: r => by simp only [List.map_cons, D.pyL, D.py, PyData.depthAll, PyData.depth, dep_ints r]; rfl
theorem plL_ints : ∀ ns : List Int, D.plL (ns.map D.int) = true
  | [] => rfl
  | n :: r => by simp only [List.map_cons, D.plL, D.pl, plL_ints r]; rfl
theorem ok_of {d : D} (h1 : d.pl = true) (h2 : PyData.canLay0 d.py = true) (h3 : PyData.depth d.py ≤ 64) : d.ok = true := by
  unfold D.ok
  rw [h1, Bool.true_and]
  show (PyData.canLay0 d.py && decide (PyData.depth d.py ≤ 64)) = true
  rw [h2, decide_eq_true h3]
  rfl
theorem ok_tupI (ns : List Int) : D.ok (.tup (ns.map .int)) = true := ok_of (by simp only [D.pl]; exact plL_ints ns) (by simp only [D.py, PyData.canLay0]; exact lay_ints ns) (by simp only [D.py, PyData.depth, dep_ints]; decide)
theorem ok_lstI (ns : List Int) : D.ok (.lst (ns.map .int)) = true := ok_of (by simp only [D.pl]; exact plL_ints ns) (by simp only [D.py, PyData.canLay0]; exact lay_ints ns) (by simp only [D.py, PyData.depth, dep_ints]; decide)
/-- depth and form of what holds such things -/
structure Ok1 (k : Nat) (d : D) : Prop where
  pl : d.pl = true
  lay : PyData.canLay0 d.py = true
  dep : PyData.depth d.py ≤ k
theorem Ok1.ok {k : Nat} {d : D} (h : Ok1 k d) (hk : k ≤ 64 := by decide) : d.ok = true := ok_of h.pl h.lay (Nat.le_trans h.dep hk)
theorem Ok1.mono {j k : Nat} {d : D} (h : Ok1 j d) (hk : j ≤ k) : Ok1 k d := ⟨h.pl, h.lay, Nat.le_trans h.dep hk⟩
theorem ok1_int (n : Int) : Ok1 0 (.int n) := ⟨rfl, rfl, Nat.le_refl _⟩
theorem ok1_bl (n : Bool) : Ok1 0 (.bl n) := ⟨rfl, rfl, Nat.le_refl _⟩
theorem ok1_non : Ok1 0 .non := ⟨rfl, rfl, Nat.le_refl _⟩
theorem ok1_all {k : Nat} : ∀ {ds : List D}, (∀ d ∈ ds, Ok1 k d) → D.plL ds = true ∧ PyData.canLayAll0 (D.pyL ds) = true ∧ PyData.depthAll (D.pyL ds) ≤ k
  | [], _ => ⟨rfl, rfl, Nat.zero_le _⟩
  | d :: r, h => by
    obtain ⟨h1, h2, h3⟩ := ok1_all (ds := r) fun x hx => h x (List.mem_cons_of_mem _ hx)
    obtain ⟨g1, g2, g3⟩ := h d (List.mem_cons_self ..)
    refine ⟨?_, ?_, ?_⟩
    · simp only [D.plL, g1, h1]; rfl
    · simp only [D.pyL, PyData.canLayAll0, g2, h2]; rfl
    · simp only [D.pyL, PyData.depthAll]
      exact Nat.max_le.mpr ⟨g3, h3⟩
theorem ok1_tup {k : Nat} {ds : List D} (h : ∀ d ∈ ds, Ok1 k d) : Ok1 (k + 1) (.tup ds) := by
  obtain ⟨h1, h2, h3⟩ := ok1_all h
  exact ⟨by simp only [D.pl]; exact h1, by simp only [D.py, PyData.canLay0]; exact h2, by simp only [D.py, PyData.depth]; omega⟩
theorem ok1_lst {k : Nat} {ds : List D} (h : ∀ d ∈ ds, Ok1 k d) : Ok1 (k + 1) (.lst ds) := by
  obtain ⟨h1, h2, h3⟩ := ok1_all h
  exact ⟨by simp only [D.pl]; exact h1, by simp only [D.py, PyData.canLay0]; exact h2, by simp only [D.py, PyData.depth]; omega⟩
theorem ok1_ints (ns : List Int) : ∀ d ∈ ns.map D.int, Ok1 0 d := fun d hd => by
  obtain ⟨n, _, rfl⟩ := List.mem_map.mp hd
  exact ok1_int n
theorem eqv_tnil (xs : List D) : D.eqv (.tup xs) (.tup []) = xs.isEmpty := by
  cases xs <;> simp [D.eqv, D.py, D.pyL, PyData.eqv, PyData.eqvAll]
theorem eqv_lnil (xs : List D) : D.eqv (.lst xs) (.lst []) = xs.isEmpty := by
  cases xs <;> simp [D.eqv, D.py, D.pyL, PyData.eqv, PyData.eqvAll]
theorem ints_iff {xs : List D} : (∀ d ∈ xs, ∃ n, d = .int n) → ∃ ns : List Int, xs = ns.map .int := by
  intro h
  induction xs with
  | nil => exact ⟨[], rfl⟩
  | cons x r ih =>
    obtain ⟨n, rfl⟩ := h x (List.mem_cons_self ..)
    obtain ⟨ns, rfl⟩ := ih fun d hd => h d (List.mem_cons_of_mem _ hd)
    exact ⟨n :: ns, rfl⟩
theorem ints_of {P : Int → Prop} {xs : List D} (h : ∀ d ∈ xs, ∃ n, d = .int n ∧ P n) : ∃ ns : List Int, xs = ns.map .int ∧ ns.length = xs.length ∧ ∀ n ∈ ns, P n := by
  induction xs with
  | nil => exact ⟨[], rfl, rfl, by simp⟩
  | cons x r ih =>
    obtain ⟨n, rfl, hn⟩ := h x (List.mem_cons_self ..)
    obtain ⟨ns, rfl, hl, hp⟩ := ih fun d hd => h d (List.mem_cons_of_mem _ hd)
    exact ⟨n :: ns, rfl, congrArg (· + 1) hl, fun m hm => by
      rcases List.mem_cons.mp hm with rfl | hm
      · exact hn
      · exact hp m hm⟩
theorem size_of {n : Nat} (h : n ≤ 1000000) : n ≤ sizeLine := by rw [sizeLine_eq]; omega
theorem size_lt {n : Nat} (h : n ≤ 1000000) : n < sizeLine := by rw [sizeLine_eq]; omega
/-! minima -/
def mn : List Int → Int
  | [] => 0
  | x :: r => r.foldl min x
theorem mn_mem {ns : List Int} (h : ns ≠ []) : mn ns ∈ ns := by
  cases ns with
  | nil => exact absurd rfl h
  | cons x r => exact (foldmin r x).1
theorem mn_le {ns : List Int} {y : Int} (h : y ∈ ns) : mn ns ≤ y := by
  cases ns with
  | nil => cases h
  | cons x r => exact (foldmin r x).2 y h
theorem mn_eq {ns : List Int} {m : Int} (h1 : m ∈ ns) (h2 : ∀ y ∈ ns, m ≤ y) : m = mn ns := by
  have a := mn_le h1
  have b := h2 _ (mn_mem (List.ne_nil_of_mem h1))
  omega
end DL
namespace DL
open PySem PySem.Spec PySem.W PyProof.Rows L2
/-- not an own one -/
def Sl.fr : Sl → Prop
  | .o _ => False
  | _ => True
theorem sl_fr {x : Sl} (h : x.fr) : (match some x with
    | some (Sl.o _) => false
    | _ => true) = true := by cases x <;> first | rfl | exact h.elim
theorem rng_mem {d : D} {lo : Int} {n : Nat} (h : d ∈ rngD lo n) : ∃ i : Nat, i < n ∧ d = .int (lo + i) := by
  obtain ⟨i, hi, e⟩ := List.mem_iff_getElem.mp h
  obtain ⟨h1, h2⟩ := rngD_get (show (rngD lo n)[i]? = some d by rw [List.getElem?_eq_getElem hi, e])
  exact ⟨i, h1, h2⟩
theorem rng_cons (lo : Int) (n : Nat) : rngD lo (n + 1) = .int lo :: rngD (lo + 1) n := by
  unfold rngD
  rw [List.range_succ_eq_map, List.map_cons, List.map_map]
  congr 1
  · congr 1; omega
  · apply List.map_congr_left
    intro i _
    show D.int (lo + ((i + 1 : Nat) : Int)) = D.int (lo + 1 + (i : Int))
    congr 1; omega
theorem rng0 (lo : Int) : rngD lo 0 = [] := rfl
theorem blsOf_true (n : Nat) : blsOf (List.replicate n (D.bl true)) = some (List.replicate n true) := by
  have := blsOf_map (List.replicate n true)
  rwa [List.map_replicate] at this
theorem map_const {α β : Type} (b : β) (xs : List α) : xs.map (fun _ => b) = List.replicate xs.length b := by
  induction xs with
  | nil => rfl
  | cons x r ih => rw [List.map_cons, ih]; rfl
theorem fin_all {M : Mem} {Q : D → Mem → Prop} (xs : List D) (q : Q (.bl true) M) : ∃ bs, blsOf ([] ++ xs.map fun _ => D.bl true) = some bs ∧ Q (D.bl (bs.all id)) M := by
  refine ⟨List.replicate xs.length true, ?_, ?_⟩
  · rw [List.nil_append, map_const, blsOf_true]
  · rw [show (List.replicate xs.length true).all id = true by simp]
    exact q
end DL

set_option Elab.async false
set_option linter.all false
/-! DL20: data that may be compared and shown, by measures. -/
namespace DL
open PySem PySem.Spec PySem.W PyProof.Rows L2
/-- depth, weight: it may be compared, shown -/
structure Sh (k w : Nat) (d : D) : Prop where
  pl : d.pl = true
  lay : PyData.canLay0 d.py = true
  dep : PyData.depth d.py ≤ k
  wt : PyData.weight d.py ≤ w
  sh : PyData.showable d.py = true
  lv : PyData.leavesShort 13 d.py = true
theorem Sh.ok {k w : Nat} {d : D} (h : Sh k w d) (hk : k ≤ 64 := by decide) : d.ok = true := ok_of h.pl h.lay (Nat.le_trans h.dep hk)
theorem Sh.mono {j k v w : Nat} {d : D} (h : Sh j v d) (hk : j ≤ k) (hw : v ≤ w) : Sh k w d := ⟨h.pl, h.lay, Nat.le_trans h.dep hk, Nat.le_trans h.wt hw, h.sh, h.lv⟩
theorem Sh.len {k w : Nat} {d : D} (h : Sh k w d) (hw : w ≤ 1000000) : d.py.shown.length ≤ sizeLine :=
  PyData.shown_fits (B := 13) (by decide) (by decide) h.lv (Nat.le_trans h.wt (by omega))
theorem log_lt {n k : Nat} (h : n < 2 ^ k) (hk : 0 < k) : n.log2 < k := by
  by_cases h0 : n = 0
  · rw [h0]; simpa using hk
  · exact (Nat.log2_lt h0).mpr h
theorem sh_int {n : Int} (h : n.natAbs < 10 ^ 12) : Sh 0 40 (.int n) where
  pl := rfl
  lay := rfl
  dep := Nat.le_refl _
  wt := by
    show (if n == 0 then 0 else n.natAbs.log2 + 1) ≤ 40
    split
    · omega
    · exact log_lt (Nat.lt_trans h (by decide)) (by decide)
  sh := by
    show decide (n.natAbs.log2 < 1920) = true
    exact decide_eq_true (Nat.lt_trans (log_lt (k := 40) (Nat.lt_trans h (by decide)) (by decide)) (by decide))
  lv := by
    show decide (_ ≤ 13) = true
    exact decide_eq_true (PyData.shown_int_le h)
theorem sh_bl (b : Bool) : Sh 0 0 (.bl b) := ⟨rfl, rfl, Nat.le_refl _, Nat.le_refl _, rfl, rfl⟩
theorem sh_non : Sh 0 0 .non := ⟨rfl, rfl, Nat.le_refl _, Nat.le_refl _, rfl, rfl⟩
theorem sh_all {k w : Nat} : ∀ {ds : List D}, (∀ d ∈ ds, Sh k w d) → D.plL ds = true ∧ PyData.canLayAll0 (D.pyL ds) = true ∧ PyData.depthAll (D.pyL ds) ≤ k ∧ PyData.weightAll (D.pyL ds) ≤ ds.length * (w + 1) ∧ PyData.showableAll (D.pyL ds) = true ∧ PyData.leavesShortAll 13 (D.pyL ds) = true
  | [], _ => ⟨rfl, rfl, Nat.zero_le _, Nat.zero_le _, rfl, rfl⟩
  | d :: r, h => by
    obtain ⟨h1, h2, h3, h4, h5, h6⟩ := sh_all (ds := r) fun x hx => h x (List.mem_cons_of_mem _ hx)
    obtain ⟨g1, g2, g3, g4, g5, g6⟩ := h d (List.mem_cons_self ..)
    refine ⟨?_, ?_, ?_, ?_, ?_, ?_⟩
    · simp only [D.plL, g1, h1]; rfl
    · simp only [D.pyL, PyData.canLayAll0, g2, h2]; rfl
    · simp only [D.pyL, PyData.depthAll]
      exact Nat.max_le.mpr ⟨g3, h3⟩
    · simp only [D.pyL, PyData.weightAll, List.length_cons, Nat.add_mul]
      omega
    · simp only [D.pyL, PyData.showableAll, g5, h5]; rfl
    · simp only [D.pyL, PyData.leavesShortAll, g6, h6]; rfl
theorem sh_tup {k w v : Nat} {ds : List D} (h : ∀ d ∈ ds, Sh k w d) (hv : ds.length * (w + 1) ≤ v) : Sh (k + 1) v (.tup ds) := by
  obtain ⟨h1, h2, h3, h4, h5, h6⟩ := sh_all h
  exact ⟨by simp only [D.pl]; exact h1, by simp only [D.py, PyData.canLay0]; exact h2, by simp only [D.py, PyData.depth]; omega, by simp only [D.py, PyData.weight]; omega,
    by simp only [D.py, PyData.showable]; exact h5, by simp only [D.py, PyData.leavesShort]; exact h6⟩
theorem sh_lst {k w v : Nat} {ds : List D} (h : ∀ d ∈ ds, Sh k w d) (hv : ds.length * (w + 1) ≤ v) : Sh (k + 1) v (.lst ds) := by
  obtain ⟨h1, h2, h3, h4, h5, h6⟩ := sh_all h
  exact ⟨by simp only [D.pl]; exact h1, by simp only [D.py, PyData.canLay0]; exact h2, by simp only [D.py, PyData.depth]; omega, by simp only [D.py, PyData.weight]; omega,
    by simp only [D.py, PyData.showable]; exact h5, by simp only [D.py, PyData.leavesShort]; exact h6⟩
theorem sh_ints {ns : List Int} (h : ∀ n ∈ ns, n.natAbs < 10 ^ 12) {d : D} (hd : d ∈ ns.map D.int) : Sh 0 40 d := by
  obtain ⟨n, hn, rfl⟩ := List.mem_map.mp hd
  exact sh_int (h n hn)
/-- repr(d) -/
theorem repr_of {k w : Nat} {d : D} {M : Mem} {Q : D → Mem → Prop} (h : Sh k w d) (hd : d.deep = true) (hk : k ≤ 64) (hw : w ≤ 1000000) (q : Q (.str d.py.shown) M) : gcRepr [d] M Q := ⟨⟨hd, h.ok hk, h.sh, h.len hw⟩, q⟩
theorem eqv_str (a b : PySem.Str) : D.eqv (.str a) (.str b) = decide (a = b) := by
  simp only [D.eqv, D.py, PyData.eqv]
  by_cases h : a = b
  · simp [h]
  · simp [h]
/-- a loop by what holds between the turns; N: what comes behind a turn -/
theorem loop_inv {gt : GG} {gb : GS} {D : DEnds} (I : List DL.D → DL.Fr → Mem → Prop) (h0 : ∀ r M, I [] r M → D.nx r M)
    (h1 : ∀ d ds r M, I (d :: ds) r M → ∀ N : DL.Fr → Mem → Prop, (∀ r M, I ds r M → N r M) → gt d r M fun r' M' => gb { D with nx := N, ct := N, bk := D.nx } r' M') :
    ∀ ds r M, I ds r M → loopD gt gb ds D r M :=
  loop_ind I h0 fun d ds r M ih h => h1 d ds r M h _ ih
/-- < of numbers, of tuples of numbers -/
def goLtA : GO := fun d e M Q => match d, e with
  | .int i, .int j => Q (.bl (decide (i < j))) M
  | .tup xs, .tup ys => ∃ ns ms, intsOf xs = some ns ∧ intsOf ys = some ms ∧ Q (.bl (HT.lexLt ns ms)) M
  | _, _ => False
theorem od_ltA {X : Cx} (hu : X.A.units < cLine) : OpD X (compareOp .Lt) goLtA where
  ex := ⟨_, op_lt.or (op_ltT hu), fun B E σ H r M O x y d e Q R i1 i2 q => by
    unfold goLtA at q
    split at q
    · rw [is1_int i1, is1_int i2]
      exact .inl ⟨_, _, rfl, rfl, fin_v R (.bl _) q⟩
    · obtain ⟨a, vs, rfl, h1, l1⟩ := i1
      obtain ⟨b, us, rfl, h2, l2⟩ := i2
      obtain ⟨ns, ms, e1, e2, q⟩ := q
      rw [of_intsOf l1 e1] at h1
      rw [of_intsOf l2 e2] at h2
      exact .inr ⟨a, b, ns, ms, rfl, rfl, h1, h2, fin_v R (.bl _) q⟩
    · exact q.elim⟩
  mono := fun d e M Q Q' h q => by
    unfold goLtA at q ⊢
    split at q
    · exact h _ _ q
    · obtain ⟨ns, ms, e1, e2, q⟩ := q
      exact ⟨ns, ms, e1, e2, h _ _ q⟩
    · exact q
end DL

set_option Elab.async false
set_option linter.all false
/-! DL21: what the readings come to, case by case; comprehensions and loops over typed lists. -/
namespace DL
open PySem PySem.Spec PySem.W PyProof.Rows L2
section
variable {M : Mem} {Q : D → Mem → Prop} {r : DL.Fr} {i j : Int} {x y : PySem.Str} {xs ys : List D} {b c : Bool} {kvs : List (Key × D)}
theorem goAdd_int : goAdd (.int i) (.int j) M Q = Q (.int (i + j)) M := rfl
theorem goAdd_str : goAdd (.str x) (.str y) M Q = (x.length + y.length ≤ sizeLine ∧ Q (.str (x ++ y)) M) := rfl
theorem goAdd_tup : goAdd (.tup xs) (.tup ys) M Q = (xs.length + ys.length ≤ sizeLine ∧ Q (.tup (xs ++ ys)) M) := rfl
theorem goAdd_lst : goAdd (.lst xs) (.lst ys) M Q = (xs.length + ys.length ≤ sizeLine ∧ Q (.lst (xs ++ ys)) M) := rfl
theorem goAddW_int : goAddW (.int i) (.int j) M Q = Q (.int (i + j)) M := rfl
theorem goAddW_lst : goAddW (.lst xs) (.lst ys) M Q = (xs.length + ys.length ≤ sizeLine ∧ Q (.lst (xs ++ ys)) M) := rfl
theorem goPlus_int : goPlus (.int i) (.int j) M Q = Q (.int (i + j)) M := rfl
theorem goI_int {C : Int → Int → Prop} {f : Int → Int → D} : goI C f (.int i) (.int j) M Q = (C i j ∧ Q (f i j) M) := rfl
theorem guI_int {f : Int → D} : guI f (.int i) M Q = Q (f i) M := rfl
theorem gcI1_int {f : Int → D} : gcI1 f [.int i] M Q = Q (f i) M := rfl
theorem goIx_lst : goIx (.lst xs) (.int i) M Q = match atI xs i with | some z => Q z M | none => False := rfl
theorem gcLen_lst : gcLen [.lst xs] M Q = Q (.int xs.length) M := rfl
theorem gcTupleS_lst : gcTupleS [.lst xs] M Q = Q (.tup xs) M := rfl
theorem gcList_lst : gcList [.lst xs] M Q = Q (.lst xs) M := rfl
theorem goRevA_lst : goRevA (.lst xs) M Q = Q (.lst xs.reverse) M := rfl
theorem goIx_tup : goIx (.tup xs) (.int i) M Q = match atI xs i with | some z => Q z M | none => False := rfl
theorem gcLen_tup : gcLen [.tup xs] M Q = Q (.int xs.length) M := rfl
theorem gcTupleS_tup : gcTupleS [.tup xs] M Q = Q (.tup xs) M := rfl
theorem gcList_tup : gcList [.tup xs] M Q = Q (.lst xs) M := rfl
theorem goRevA_tup : goRevA (.tup xs) M Q = Q (.tup xs.reverse) M := rfl
theorem gcTuple_lst : gcTuple [.lst xs] M Q = Q (.tup xs) M := rfl
theorem goIx_str : goIx (.str x) (.int i) M Q = (x.length ≤ sizeLine ∧ match atI x.cps.toList i with | some c => Q (.str ⟨#[c]⟩) M | none => False) := rfl
theorem gcLen_str : gcLen [.str x] M Q = (x.length ≤ sizeLine ∧ Q (.int x.length) M) := rfl
theorem gcInt_int : gcInt [.int i] M Q = Q (.int i) M := rfl
theorem gcInt_bl : gcInt [.bl b] M Q = Q (.int (if b then 1 else 0)) M := rfl
theorem goMulT_tup : goMulT (.tup xs) (.int i) M Q = ((xs ≠ [] ∧ -1000000 ≤ i ∧ i ≤ 1000 ∧ xs.length ≤ 1000) ∧ Q (.tup (repD i xs)) M) := rfl
theorem goIsB_bl {n : Bool} : goIsB n (.bl b) (.bl c) M Q = Q (.bl (xor n (decide (b = c)))) M := rfl
theorem goIsN_non {n : Bool} {d : D} : goIsN n d .non M Q = Q (.bl (xor n d.isN)) M := rfl
theorem isN_int {z} : D.isN (.int z) = false := rfl
theorem isN_bl {z} : D.isN (.bl z) = false := rfl
theorem isN_str {z} : D.isN (.str z) = false := rfl
theorem isN_tup {z} : D.isN (.tup z) = false := rfl
theorem isN_lst {z} : D.isN (.lst z) = false := rfl
theorem isN_dic {z} : D.isN (.dic z) = false := rfl
theorem isN_ref {z} : D.isN (.ref z) = false := rfl
theorem isN_ty {z} : D.isN (.ty z) = false := rfl
theorem isN_non : D.isN .non = true := rfl
def truK (d : D) (M : Mem) (Q : Bool → Mem → Prop) : Prop := match d with
  | .non => Q false M
  | .bl b => Q b M
  | .int i => Q (i != 0) M
  | .str x => x.length ≤ sizeLine ∧ Q ((x.length : Int) != 0) M
  | .lst xs => Q (!xs.isEmpty) M
  | .tup xs => Q (!xs.isEmpty) M
  | .dic xs => Q (!xs.isEmpty) M
  | _ => False
theorem gTru_k {ga : GE} {Q : Bool → Mem → Prop} : gTru ga r M Q = ga r M fun d M1 => truK d M1 Q := by
  unfold gTru
  congr 1
theorem truK_non {Q : Bool → Mem → Prop} : truK .non M Q = Q false M := rfl
theorem truK_bl {Q : Bool → Mem → Prop} : truK (.bl b) M Q = Q b M := rfl
theorem truK_int {Q : Bool → Mem → Prop} : truK (.int i) M Q = Q (i != 0) M := rfl
theorem truK_lst {Q : Bool → Mem → Prop} : truK (.lst xs) M Q = Q (!xs.isEmpty) M := rfl
theorem truK_tup {Q : Bool → Mem → Prop} : truK (.tup xs) M Q = Q (!xs.isEmpty) M := rfl
theorem truK_str {Q : Bool → Mem → Prop} : truK (.str x) M Q = (x.length ≤ sizeLine ∧ Q ((x.length : Int) != 0) M) := rfl
def lstK (d : D) (M : Mem) (Q : OM → Mem → Prop) : Prop := match d with
  | .lst xs => Q (.lst xs) M
  | .tup xs => Q (.lst xs) M
  | _ => False
theorem gFlist_k {ga : GE} {Q : OM → Mem → Prop} : gFlist ga r M Q = ga r M fun d M1 => lstK d M1 Q := by
  unfold gFlist
  congr 1
theorem lstK_lst {Q : OM → Mem → Prop} : lstK (.lst xs) M Q = Q (.lst xs) M := rfl
theorem lstK_tup {Q : OM → Mem → Prop} : lstK (.tup xs) M Q = Q (.lst xs) M := rfl
def slK (w : Bool) (d : D) (lo hi : Option Int) (M : Mem) (Q : D → Mem → Prop) : Prop := match d with
  | .lst xs => Q (.lst (cutD xs lo hi)) M
  | .tup xs => w = true ∧ Q (.tup (cutD xs lo hi)) M
  | .str x => x.length ≤ sizeLine ∧ Q (.str (cutS x lo hi)) M
  | _ => False
theorem gsSl_k {w : Bool} {ga : GE} {gl gh : GO'} : gsSl w ga gl gh r M Q = ga r M fun d M1 => gl r M1 fun lo M2 => gh r M2 fun hi M3 => slK w d lo hi M3 Q := by
  unfold gsSl
  congr 1
theorem slK_lst {w : Bool} {lo hi : Option Int} : slK w (.lst xs) lo hi M Q = Q (.lst (cutD xs lo hi)) M := rfl
theorem slK_tup {lo hi : Option Int} : slK true (.tup xs) lo hi M Q = Q (.tup (cutD xs lo hi)) M := propext ⟨fun h => h.2, fun h => ⟨rfl, h⟩⟩
theorem slK_str {w : Bool} {lo hi : Option Int} : slK w (.str x) lo hi M Q = (x.length ≤ sizeLine ∧ Q (.str (cutS x lo hi)) M) := rfl
def itsK (f : List D → List D) (d : D) (M : Mem) (Q : List D → Mem → Prop) : Prop := match d with
  | .lst ds => Q (f ds) M
  | .tup ds => Q (f ds) M
  | _ => False
theorem itsD_k {f : List D → List D} {ga : GE} {Q : List D → Mem → Prop} : itsD f ga r M Q = ga r M fun d M1 => itsK f d M1 Q := by
  unfold itsD
  congr 1
theorem itsK_lst {f : List D → List D} {Q : List D → Mem → Prop} : itsK f (.lst xs) M Q = Q (f xs) M := rfl
theorem itsK_tup {f : List D → List D} {Q : List D → Mem → Prop} : itsK f (.tup xs) M Q = Q (f xs) M := rfl
def zipK (ds : List D) (M : Mem) (Q : List D → Mem → Prop) : Prop := match ds with
  | [.lst xs, .lst ys] => Q (zipD xs ys) M
  | [.tup xs, .tup ys] => Q (zipD xs ys) M
  | _ => False
theorem giZip_k {gs : GA} {Q : List D → Mem → Prop} : giZip gs r M Q = gs r M fun ds M1 => zipK ds M1 Q := by
  unfold giZip
  congr 1
theorem zipK_lst {Q : List D → Mem → Prop} : zipK [.lst xs, .lst ys] M Q = Q (zipD xs ys) M := rfl
theorem zipK_tup {Q : List D → Mem → Prop} : zipK [.tup xs, .tup ys] M Q = Q (zipD xs ys) M := rfl
def ran1K (ds : List D) (M : Mem) (Q : List D → Mem → Prop) : Prop := match ds with
  | [.int j] => (-(2 ^ 62) ≤ j ∧ j < 2 ^ 62) ∧ Q (rngD 0 j.toNat) M
  | _ => False
theorem giR1_k {gs : GA} {Q : List D → Mem → Prop} : giR1 gs r M Q = gs r M fun ds M1 => ran1K ds M1 Q := by
  unfold giR1
  congr 1
theorem ran1K_nat {n : Nat} {Q : List D → Mem → Prop} : ran1K [.int (n : Int)] M Q = ((n : Int) < 2 ^ 62 ∧ Q (rngD 0 n) M) := propext ⟨fun h => ⟨h.1.2, by have := h.2; rwa [Int.toNat_natCast] at this⟩, fun h => ⟨⟨by omega, h.1⟩, by rw [Int.toNat_natCast]; exact h.2⟩⟩
theorem ran1K_int {Q : List D → Mem → Prop} : ran1K [.int i] M Q = ((-(2 ^ 62) ≤ i ∧ i < 2 ^ 62) ∧ Q (rngD 0 i.toNat) M) := rfl
theorem ran1K_lit {n : Nat} {Q : List D → Mem → Prop} (h : n < 1000000) : ran1K [.int (OfNat.ofNat n : Int)] M Q = Q (rngD 0 n) M := by
  have e : (OfNat.ofNat n : Int) = (n : Int) := rfl
  rw [e, ran1K_nat]
  exact propext ⟨fun h => h.2, fun q => ⟨by omega, q⟩⟩
def ran2K (ds : List D) (M : Mem) (Q : List D → Mem → Prop) : Prop := match ds with
  | [.int i, .int j] => (-(2 ^ 62) ≤ i ∧ i < 2 ^ 62 ∧ -(2 ^ 62) ≤ j ∧ j < 2 ^ 62) ∧ Q (rngD i (j - i).toNat) M
  | _ => False
theorem giR2_k {gs : GA} {Q : List D → Mem → Prop} : giR2 gs r M Q = gs r M fun ds M1 => ran2K ds M1 Q := by
  unfold giR2
  congr 1
theorem ran2K_int {Q : List D → Mem → Prop} : ran2K [.int i, .int j] M Q = ((-(2 ^ 62) ≤ i ∧ i < 2 ^ 62 ∧ -(2 ^ 62) ≤ j ∧ j < 2 ^ 62) ∧ Q (rngD i (j - i).toNat) M) := rfl
theorem goLtA_int : goLtA (.int i) (.int j) M Q = Q (.bl (decide (i < j))) M := rfl
theorem goLtA_tup {ns ms : List Int} : goLtA (.tup (ns.map .int)) (.tup (ms.map .int)) M Q = Q (.bl (HT.lexLt ns ms)) M := propext ⟨fun ⟨a, b, h1, h2, q⟩ => by
    rw [intsOf_map] at h1 h2
    cases h1; cases h2
    exact q, fun q => ⟨ns, ms, intsOf_map _, intsOf_map _, q⟩⟩
/-! == -/
theorem ok_bl (a : Bool) : D.ok (.bl a) = true := rfl
theorem ok_non : D.ok .non = true := rfl
theorem eqv_bl (a b : Bool) : D.eqv (.bl a) (.bl b) = decide (a = b) := by cases a <;> cases b <;> simp [D.eqv, D.py, PyData.eqv]
theorem ok_str {x : PySem.Str} (h : PyData.strOk x = true) : D.ok (.str x) = true := ok_of rfl h (Nat.zero_le _)
/-- numbers, truths, texts; else what is ok -/
def goEqA : GO := fun d e M Q => match d, e with
  | .int i, .int j => Q (.bl (decide (i = j))) M
  | .bl i, .bl j => Q (.bl (decide (i = j))) M
  | .str i, .str j => Q (.bl (decide (i = j))) M
  | d, e => (d.ok = true ∧ e.ok = true) ∧ Q (.bl (d.eqv e)) M
def goNeA : GO := fun d e M Q => match d, e with
  | .int i, .int j => Q (.bl (!decide (i = j))) M
  | .bl i, .bl j => Q (.bl (!decide (i = j))) M
  | .str i, .str j => Q (.bl (!decide (i = j))) M
  | d, e => (d.ok = true ∧ e.ok = true) ∧ Q (.bl (!d.eqv e)) M
theorem decV_int {i j : Int} : decide (V.int i = V.int j) = decide (i = j) := by
  by_cases h : i = j
  · subst h; simp
  · rw [decide_eq_false h, decide_eq_false fun z => h (by cases z; rfl)]
theorem decV_bl {i j : Bool} : decide (V.bl i = V.bl j) = decide (i = j) := by
  by_cases h : i = j
  · subst h; simp
  · rw [decide_eq_false h, decide_eq_false fun z => h (by cases z; rfl)]
theorem decV_str {i j : PySem.Str} : decide (V.str i = V.str j) = decide (i = j) := by
  by_cases h : i = j
  · subst h; simp
  · rw [decide_eq_false h, decide_eq_false fun z => h (by cases z; rfl)]
theorem od_eqA {X : Cx} (hu : X.A.units + 64 < cLine) : OpD X (compareOp .Eq) goEqA where
  ex := ⟨_, op_eq.or (op_eqD hu), fun B E σ H r M O x y d e Q R i1 i2 q => by
    unfold goEqA at q
    split at q
    · rw [is1_int i1, is1_int i2]
      exact .inl ⟨rfl, by rw [decV_int]; exact fin_v R (.bl _) q⟩
    · rw [is1_bl i1, is1_bl i2]
      exact .inl ⟨rfl, by rw [decV_bl]; exact fin_v R (.bl _) q⟩
    · rw [is1_str i1, is1_str i2]
      exact .inl ⟨rfl, by rw [decV_str]; exact fin_v R (.bl _) q⟩
    · exact .inr ⟨d.py, e.py, i1.dp (ok_and q.1.1).1, i2.dp (ok_and q.1.2).1, (ok_and q.1.1).2, (ok_and q.1.2).2, fin_v R (.bl _) q.2⟩⟩
  mono := fun d e M Q Q' h q => by
    unfold goEqA at q ⊢
    split at q
    · exact h _ _ q
    · exact h _ _ q
    · exact h _ _ q
    · exact ⟨q.1, h _ _ q.2⟩
theorem od_neA {X : Cx} (hu : X.A.units + 64 < cLine) : OpD X (compareOp .NotEq) goNeA where
  ex := ⟨_, op_ne.or (op_neD hu), fun B E σ H r M O x y d e Q R i1 i2 q => by
    unfold goNeA at q
    split at q
    · rw [is1_int i1, is1_int i2]
      exact .inl ⟨rfl, by rw [decV_int]; exact fin_v R (.bl _) q⟩
    · rw [is1_bl i1, is1_bl i2]
      exact .inl ⟨rfl, by rw [decV_bl]; exact fin_v R (.bl _) q⟩
    · rw [is1_str i1, is1_str i2]
      exact .inl ⟨rfl, by rw [decV_str]; exact fin_v R (.bl _) q⟩
    · exact .inr ⟨d.py, e.py, i1.dp (ok_and q.1.1).1, i2.dp (ok_and q.1.2).1, (ok_and q.1.1).2, (ok_and q.1.2).2, fin_v R (.bl _) q.2⟩⟩
  mono := fun d e M Q Q' h q => by
    unfold goNeA at q ⊢
    split at q
    · exact h _ _ q
    · exact h _ _ q
    · exact h _ _ q
    · exact ⟨q.1, h _ _ q.2⟩
theorem goEq_int : goEqA (.int i) (.int j) M Q = Q (.bl (decide (i = j))) M := rfl
theorem goNe_int : goNeA (.int i) (.int j) M Q = Q (.bl (!decide (i = j))) M := rfl
theorem goEq_bl : goEqA (.bl b) (.bl c) M Q = Q (.bl (decide (b = c))) M := rfl
theorem goNe_bl : goNeA (.bl b) (.bl c) M Q = Q (.bl (!decide (b = c))) M := rfl
theorem goEq_str : goEqA (.str x) (.str y) M Q = Q (.bl (decide (x = y))) M := rfl
theorem goNe_str : goNeA (.str x) (.str y) M Q = Q (.bl (!decide (x = y))) M := rfl
theorem goEq_tup {e : D} : goEqA (.tup xs) e M Q = ((D.ok (.tup xs) = true ∧ e.ok = true) ∧ Q (.bl (D.eqv (.tup xs) e)) M) := rfl
theorem goNe_tup {e : D} : goNeA (.tup xs) e M Q = ((D.ok (.tup xs) = true ∧ e.ok = true) ∧ Q (.bl (!D.eqv (.tup xs) e)) M) := rfl
theorem goEq_lst {e : D} : goEqA (.lst xs) e M Q = ((D.ok (.lst xs) = true ∧ e.ok = true) ∧ Q (.bl (D.eqv (.lst xs) e)) M) := rfl
theorem goNe_lst {e : D} : goNeA (.lst xs) e M Q = ((D.ok (.lst xs) = true ∧ e.ok = true) ∧ Q (.bl (!D.eqv (.lst xs) e)) M) := rfl
theorem goEq_non {e : D} : goEqA .non e M Q = ((D.ok .non = true ∧ e.ok = true) ∧ Q (.bl (D.eqv .non e)) M) := rfl
theorem goNe_non {e : D} : goNeA .non e M Q = ((D.ok .non = true ∧ e.ok = true) ∧ Q (.bl (!D.eqv .non e)) M) := rfl
/-! min, max, sum -/
def mx : List Int → Int
  | [] => 0
  | x :: r => r.foldl max x
theorem mx_mem {ns : List Int} (h : ns ≠ []) : mx ns ∈ ns := by
  cases ns with
  | nil => exact absurd rfl h
  | cons x r => exact (foldmax r x).1
theorem mx_ge {ns : List Int} {y : Int} (h : y ∈ ns) : y ≤ mx ns := by
  cases ns with
  | nil => cases h
  | cons x r => exact (foldmax r x).2 y h
theorem mx_eq {ns : List Int} {m : Int} (h1 : m ∈ ns) (h2 : ∀ y ∈ ns, y ≤ m) : m = mx ns := by
  have a := mx_ge h1
  have b := h2 _ (mx_mem (List.ne_nil_of_mem h1))
  omega
theorem gcMin_of {ns : List Int} (e : intsOf xs = some ns) : gcMinA [.lst xs] M Q = (ns ≠ [] ∧ Q (.int (mn ns)) M) := propext ⟨fun ⟨ms, h, h0, q⟩ => by
    rw [e] at h
    cases h
    have hn : ns ≠ [] := List.length_pos_iff.mp h0
    exact ⟨hn, q _ (mn_mem hn) fun y hy => mn_le hy⟩, fun ⟨hn, q⟩ => ⟨ns, e, List.length_pos_iff.mpr hn, fun m h1 h2 => by rw [mn_eq h1 h2]; exact q⟩⟩
theorem gcMinT_of {ns : List Int} (e : intsOf xs = some ns) : gcMinA [.tup xs] M Q = (ns ≠ [] ∧ Q (.int (mn ns)) M) := propext ⟨fun ⟨ms, h, h0, q⟩ => by
    rw [e] at h
    cases h
    have hn : ns ≠ [] := List.length_pos_iff.mp h0
    exact ⟨hn, q _ (mn_mem hn) fun y hy => mn_le hy⟩, fun ⟨hn, q⟩ => ⟨ns, e, List.length_pos_iff.mpr hn, fun m h1 h2 => by rw [mn_eq h1 h2]; exact q⟩⟩
theorem gcMax_of {ns : List Int} (e : intsOf xs = some ns) : gcMaxA [.lst xs] M Q = (ns ≠ [] ∧ Q (.int (mx ns)) M) := propext ⟨fun ⟨ms, h, h0, q⟩ => by
    rw [e] at h
    cases h
    have hn : ns ≠ [] := List.length_pos_iff.mp h0
    exact ⟨hn, q _ (mx_mem hn) fun y hy => mx_ge hy⟩, fun ⟨hn, q⟩ => ⟨ns, e, List.length_pos_iff.mpr hn, fun m h1 h2 => by rw [mx_eq h1 h2]; exact q⟩⟩
theorem gcMaxT_of {ns : List Int} (e : intsOf xs = some ns) : gcMaxA [.tup xs] M Q = (ns ≠ [] ∧ Q (.int (mx ns)) M) := propext ⟨fun ⟨ms, h, h0, q⟩ => by
    rw [e] at h
    cases h
    have hn : ns ≠ [] := List.length_pos_iff.mp h0
    exact ⟨hn, q _ (mx_mem hn) fun y hy => mx_ge hy⟩, fun ⟨hn, q⟩ => ⟨ns, e, List.length_pos_iff.mpr hn, fun m h1 h2 => by rw [mx_eq h1 h2]; exact q⟩⟩
theorem gcMin_ints {ns : List Int} : gcMinA [.lst (ns.map .int)] M Q = (ns ≠ [] ∧ Q (.int (mn ns)) M) := gcMin_of (intsOf_map ns)
theorem gcMinT_ints {ns : List Int} : gcMinA [.tup (ns.map .int)] M Q = (ns ≠ [] ∧ Q (.int (mn ns)) M) := gcMinT_of (intsOf_map ns)
theorem gcMax_ints {ns : List Int} : gcMaxA [.lst (ns.map .int)] M Q = (ns ≠ [] ∧ Q (.int (mx ns)) M) := gcMax_of (intsOf_map ns)
theorem gcMaxT_ints {ns : List Int} : gcMaxA [.tup (ns.map .int)] M Q = (ns ≠ [] ∧ Q (.int (mx ns)) M) := gcMaxT_of (intsOf_map ns)
theorem intsOf_mapf {α : Type} (f : α → Int) : ∀ zs : List α, intsOf (zs.map fun z => D.int (f z)) = some (zs.map f)
  | [] => rfl
  | z :: r => by
    have h := intsOf_mapf f r
    show (intsOf (r.map fun z => D.int (f z))).map _ = _
    rw [h]
    rfl
theorem blsOf_mapf {α : Type} (f : α → Bool) : ∀ zs : List α, blsOf (zs.map fun z => D.bl (f z)) = some (zs.map f)
  | [] => rfl
  | z :: r => by
    have h := blsOf_mapf f r
    show (blsOf (r.map fun z => D.bl (f z))).map _ = _
    rw [h]
    rfl
theorem gcMin_f {α : Type} {f : α → Int} {zs : List α} : gcMinA [.lst (zs.map fun z => D.int (f z))] M Q = (zs.map f ≠ [] ∧ Q (.int (mn (zs.map f))) M) := gcMin_of (intsOf_mapf f zs)
theorem gcMax_f {α : Type} {f : α → Int} {zs : List α} : gcMaxA [.lst (zs.map fun z => D.int (f z))] M Q = (zs.map f ≠ [] ∧ Q (.int (mx (zs.map f))) M) := gcMax_of (intsOf_mapf f zs)
theorem gcMin_2 : gcMinA [.int i, .int j] M Q = Q (.int (min i j)) M := by
  have e : (if j < i then j else i) = min i j := by split <;> omega
  rw [← e]
  rfl
theorem gcMax_2 : gcMaxA [.int i, .int j] M Q = Q (.int (max i j)) M := by
  have e : (if j > i then j else i) = max i j := by split <;> omega
  rw [← e]
  rfl
theorem gcSum_ints {ns : List Int} : gcSum [.lst (ns.map .int)] M Q = Q (.int ns.sum) M := propext ⟨fun ⟨ms, h, q⟩ => by
    rw [intsOf_map] at h
    cases h
    exact q, fun q => ⟨ns, intsOf_map ns, q⟩⟩
theorem gcSum_f {α : Type} {f : α → Int} {zs : List α} : gcSum [.lst (zs.map fun z => D.int (f z))] M Q = Q (.int (zs.map f).sum) M := propext ⟨fun ⟨ms, h, q⟩ => by
    rw [intsOf_mapf] at h
    cases h
    exact q, fun q => ⟨_, intsOf_mapf f zs, q⟩⟩
theorem gcBls_f {α : Type} {g : List Bool → Bool} {f : α → Bool} {zs : List α} : gcBls g [.lst (zs.map fun z => D.bl (f z))] M Q = Q (.bl (g (zs.map f))) M := propext ⟨fun ⟨ms, h, q⟩ => by
    rw [blsOf_mapf] at h
    cases h
    exact q, fun q => ⟨_, blsOf_mapf f zs, q⟩⟩
theorem all_mapid {α : Type} {f : α → Bool} {zs : List α} : (zs.map f).all _root_.id = zs.all f := by simp
theorem any_mapid {α : Type} {f : α → Bool} {zs : List α} : (zs.map f).any _root_.id = zs.any f := by simp
/-! items by written places -/
theorem at_0 {α : Type} {a : α} {l : List α} : atI (a :: l) 0 = some a := by
  unfold atI ixN
  rw [if_pos (by decide), if_pos (by simp <;> omega)]
  rfl
theorem at_1 {α : Type} {a b : α} {l : List α} : atI (a :: b :: l) 1 = some b := by
  unfold atI ixN
  rw [if_pos (by decide), if_pos (by simp <;> omega)]
  rfl
theorem at_2 {α : Type} {a b c : α} {l : List α} : atI (a :: b :: c :: l) 2 = some c := by
  unfold atI ixN
  rw [if_pos (by decide), if_pos (by simp <;> omega)]
  rfl
theorem at_3 {α : Type} {a b c d : α} {l : List α} : atI (a :: b :: c :: d :: l) 3 = some d := by
  unfold atI ixN
  rw [if_pos (by decide), if_pos (by simp <;> omega)]
  rfl
theorem at_last {α : Type} {a : α} {l : List α} : atI (l ++ [a]) (-1) = some a := by
  unfold atI ixN
  rw [if_neg (by decide), if_pos (by simp <;> omega)]
  show (l ++ [a])[(-1 + ((l ++ [a]).length : Int)).toNat]? = _
  rw [List.length_append, List.length_singleton, show (-1 + ((l.length + 1 : Nat) : Int)).toNat = l.length by omega]
  simp
theorem at_map {α : Type} {f : α → D} {l : List α} {k : Nat} {z : α} (h : l[k]? = some z) : atI (l.map f) (k : Int) = some (f z) := by
  unfold atI ixN
  have hl : k < l.length := (List.getElem?_eq_some_iff.mp h).1
  rw [if_pos (by omega), if_pos (by rw [List.length_map]; omega)]
  show (l.map f)[((k : Nat) : Int).toNat]? = _
  rw [Int.toNat_natCast, List.getElem?_map, h]
  rfl
/-! no own list in a slot -/
def nof : Sl → Bool
  | .o _ => false
  | _ => true
theorem noOwn_nil : noOwn r [] = true := rfl
theorem noOwn_cons {k : Nat} {vs : List Nat} {s : Sl} (h : r.sl[k]? = some s) : noOwn r (k :: vs) = (nof s && noOwn r vs) := by
  show ((match r.sl[k]? with
    | some (.o _) => false
    | _ => true) && _) = _
  rw [h]
  cases s <;> rfl
theorem noOwn_1 {k : Nat} : noOwn r [k] = (match r.sl[k]? with | some s => nof s | none => true) := by
  show ((match r.sl[k]? with
    | some (.o _) => false
    | _ => true) && _) = _
  cases h : r.sl[k]? with
  | none => rfl
  | some s => cases s <;> rfl
theorem noOwn_2 {k j : Nat} : noOwn r [k, j] = ((match r.sl[k]? with | some s => nof s | none => true) && (match r.sl[j]? with | some s => nof s | none => true)) := by
  have h : noOwn r [k, j] = (noOwn r [k] && noOwn r [j]) := by
    show (_ && (_ && true)) = ((_ && true) && (_ && true))
    simp
  rw [h, noOwn_1, noOwn_1]
theorem nof_n : nof .n = true := rfl
theorem nof_v {d : D} : nof (.v d) = true := rfl
theorem nof_b {k : Bool} {ds : List D} : nof (.b k ds) = true := rfl
theorem nof_s {ns : List Int} : nof (.s ns) = true := rfl
/-! lists that are walked -/
theorem zipD_map {α β : Type} {f : α → D} {g : β → D} : ∀ {as : List α} {bs : List β}, zipD (as.map f) (bs.map g) = (as.zip bs).map fun p => .tup [f p.1, g p.2]
  | [], _ => rfl
  | _ :: _, [] => rfl
  | a :: as, b :: bs => congrArg (_ :: ·) (zipD_map (as := as) (bs := bs))
theorem enumD_map {α : Type} {f : α → D} : ∀ {as : List α} {k : Nat}, enumD k (as.map f) = (as.zipIdx k).map fun p => .tup [.int (p.2 : Nat), f p.1]
  | [], _ => rfl
  | a :: as, k => congrArg (_ :: ·) (enumD_map (as := as) (k := k + 1))
end
section
variable {gt : GG} {gtt : GT} {ge : GE} {r : DL.Fr} {M : Mem} {Q : List D → Mem → Prop} {α : Type} {enc : α → D} {f : α → D}
theorem lc_mp {xs : List α} {acc : List D} (h : ∀ x ∈ xs, ∀ Q' : D → Mem → Prop, Q' (f x) M → gt (enc x) r M fun r1 M1 => ge r1 M1 Q') (hz : acc.length + xs.length ≤ sizeLine) (q : Q (acc ++ xs.map f) M) : lcD gt gYes ge r (xs.map enc) acc M Q := by
  induction xs generalizing acc with
  | nil =>
    show Q acc M
    simpa using q
  | cons x xs ih =>
    have hz' : acc.length + (xs.length + 1) ≤ sizeLine := hz
    refine h x (List.mem_cons_self ..) _ ⟨by omega, ih (fun y hy => h y (List.mem_cons_of_mem _ hy)) ?_ ?_⟩
    · rw [List.length_append, List.length_cons, List.length_nil]; omega
    · rw [List.append_assoc]; exact q
theorem lc_fp {p : α → Bool} {xs : List α} {acc : List D}
    (h : ∀ x ∈ xs, ∀ Q' : D → Mem → Prop, ∀ P' : Mem → Prop, (p x = true → Q' (f x) M) → (p x = false → P' M) → gt (enc x) r M fun r1 M1 => gtt r1 M1 fun b M2 => if b = true then ge r1 M2 Q' else P' M2)
    (hz : acc.length + xs.length ≤ sizeLine) (q : Q (acc ++ (xs.filter p).map f) M) : lcD gt gtt ge r (xs.map enc) acc M Q := by
  induction xs generalizing acc with
  | nil =>
    show Q acc M
    simpa using q
  | cons x xs ih =>
    have hz' : acc.length + (xs.length + 1) ≤ sizeLine := hz
    refine h x (List.mem_cons_self ..) (fun z M3 => acc.length < sizeLine ∧ lcD gt gtt ge r (xs.map enc) (acc ++ [z]) M3 Q) (fun M2 => lcD gt gtt ge r (xs.map enc) acc M2 Q) (fun e => ⟨by omega, ih (fun y hy => h y (List.mem_cons_of_mem _ hy)) ?_ ?_⟩) fun e => ih (fun y hy => h y (List.mem_cons_of_mem _ hy)) (by omega) ?_
    · rw [List.length_append, List.length_cons, List.length_nil]; omega
    · rw [List.append_assoc]
      rw [List.filter_cons_of_pos e] at q
      exact q
    · rw [List.filter_cons_of_neg (by rw [e]; simp)] at q
      exact q
/-- drawn items: what is true of each -/
theorem lc_dr {P : α → D → Prop} {xs : List α} {acc : List D} (h : ∀ x ∈ xs, ∀ Q' : D → Mem → Prop, (∀ z, P x z → Q' z M) → gt (enc x) r M fun r1 M1 => ge r1 M1 Q') (hz : acc.length + xs.length ≤ sizeLine)
    (q : ∀ zs : List D, zs.length = xs.length → (∀ (i : Nat) (x : α) (z : D), xs[i]? = some x → zs[i]? = some z → P x z) → Q (acc ++ zs) M) : lcD gt gYes ge r (xs.map enc) acc M Q := by
  induction xs generalizing acc with
  | nil =>
    show Q acc M
    simpa using q [] rfl (by simp)
  | cons x xs ih =>
    have hz' : acc.length + (xs.length + 1) ≤ sizeLine := hz
    refine h x (List.mem_cons_self ..) _ fun z hp => ⟨by omega, ih (fun y hy => h y (List.mem_cons_of_mem _ hy)) ?_ fun zs hl hq => ?_⟩
    · rw [List.length_append, List.length_cons, List.length_nil]; omega
    · rw [List.append_assoc]
      refine q (z :: zs) (congrArg (· + 1) hl) fun i y w e1 e2 => ?_
      cases i with
      | zero => cases e1; cases e2; exact hp
      | succ i => exact hq i y w e1 e2
theorem loop_mp {gb : GS} {D' : DEnds} (I : List α → DL.Fr → Mem → Prop) (h0 : ∀ r M, I [] r M → D'.nx r M)
    (h1 : ∀ x xs r M, I (x :: xs) r M → ∀ N : DL.Fr → Mem → Prop, (∀ r M, I xs r M → N r M) → gt (enc x) r M fun r' M' => gb { D' with nx := N, ct := N, bk := D'.nx } r' M') :
    ∀ xs r M, I xs r M → loopD gt gb (xs.map enc) D' r M
  | [], r, M, h => h0 r M h
  | x :: xs, r, M, h => h1 x xs r M h _ (loop_mp I h0 h1 xs)
end
/-! isinstance, by forms -/
section
variable {M : Mem} {Q : D → Mem → Prop}

theorem isi_non_int  : gcIsi [.non, .ty "int"] M Q = Q (.bl false) M := propext ⟨fun ⟨_, t, h, q⟩ => by cases h; exact q, fun q => ⟨by decide, "NoneType", rfl, q⟩⟩
theorem isi_non_bool  : gcIsi [.non, .ty "bool"] M Q = Q (.bl false) M := propext ⟨fun ⟨_, t, h, q⟩ => by cases h; exact q, fun q => ⟨by decide, "NoneType", rfl, q⟩⟩
theorem isi_non_str  : gcIsi [.non, .ty "str"] M Q = Q (.bl false) M := propext ⟨fun ⟨_, t, h, q⟩ => by cases h; exact q, fun q => ⟨by decide, "NoneType", rfl, q⟩⟩
theorem isi_non_tuple  : gcIsi [.non, .ty "tuple"] M Q = Q (.bl false) M := propext ⟨fun ⟨_, t, h, q⟩ => by cases h; exact q, fun q => ⟨by decide, "NoneType", rfl, q⟩⟩
theorem isi_non_list  : gcIsi [.non, .ty "list"] M Q = Q (.bl false) M := propext ⟨fun ⟨_, t, h, q⟩ => by cases h; exact q, fun q => ⟨by decide, "NoneType", rfl, q⟩⟩
theorem isi_non_dict  : gcIsi [.non, .ty "dict"] M Q = Q (.bl false) M := propext ⟨fun ⟨_, t, h, q⟩ => by cases h; exact q, fun q => ⟨by decide, "NoneType", rfl, q⟩⟩
theorem isi_bl_int (z : Bool) : gcIsi [.bl z, .ty "int"] M Q = Q (.bl true) M := propext ⟨fun ⟨_, t, h, q⟩ => by cases h; exact q, fun q => ⟨by decide, "bool", rfl, q⟩⟩
theorem isi_bl_bool (z : Bool) : gcIsi [.bl z, .ty "bool"] M Q = Q (.bl true) M := propext ⟨fun ⟨_, t, h, q⟩ => by cases h; exact q, fun q => ⟨by decide, "bool", rfl, q⟩⟩
theorem isi_bl_str (z : Bool) : gcIsi [.bl z, .ty "str"] M Q = Q (.bl false) M := propext ⟨fun ⟨_, t, h, q⟩ => by cases h; exact q, fun q => ⟨by decide, "bool", rfl, q⟩⟩
theorem isi_bl_tuple (z : Bool) : gcIsi [.bl z, .ty "tuple"] M Q = Q (.bl false) M := propext ⟨fun ⟨_, t, h, q⟩ => by cases h; exact q, fun q => ⟨by decide, "bool", rfl, q⟩⟩
theorem isi_bl_list (z : Bool) : gcIsi [.bl z, .ty "list"] M Q = Q (.bl false) M := propext ⟨fun ⟨_, t, h, q⟩ => by cases h; exact q, fun q => ⟨by decide, "bool", rfl, q⟩⟩
theorem isi_bl_dict (z : Bool) : gcIsi [.bl z, .ty "dict"] M Q = Q (.bl false) M := propext ⟨fun ⟨_, t, h, q⟩ => by cases h; exact q, fun q => ⟨by decide, "bool", rfl, q⟩⟩
theorem isi_int_int (z : Int) : gcIsi [.int z, .ty "int"] M Q = Q (.bl true) M := propext ⟨fun ⟨_, t, h, q⟩ => by cases h; exact q, fun q => ⟨by decide, "int", rfl, q⟩⟩
theorem isi_int_bool (z : Int) : gcIsi [.int z, .ty "bool"] M Q = Q (.bl false) M := propext ⟨fun ⟨_, t, h, q⟩ => by cases h; exact q, fun q => ⟨by decide, "int", rfl, q⟩⟩
theorem isi_int_str (z : Int) : gcIsi [.int z, .ty "str"] M Q = Q (.bl false) M := propext ⟨fun ⟨_, t, h, q⟩ => by cases h; exact q, fun q => ⟨by decide, "int", rfl, q⟩⟩
theorem isi_int_tuple (z : Int) : gcIsi [.int z, .ty "tuple"] M Q = Q (.bl false) M := propext ⟨fun ⟨_, t, h, q⟩ => by cases h; exact q, fun q => ⟨by decide, "int", rfl, q⟩⟩
theorem isi_int_list (z : Int) : gcIsi [.int z, .ty "list"] M Q = Q (.bl false) M := propext ⟨fun ⟨_, t, h, q⟩ => by cases h; exact q, fun q => ⟨by decide, "int", rfl, q⟩⟩
theorem isi_int_dict (z : Int) : gcIsi [.int z, .ty "dict"] M Q = Q (.bl false) M := propext ⟨fun ⟨_, t, h, q⟩ => by cases h; exact q, fun q => ⟨by decide, "int", rfl, q⟩⟩
theorem isi_str_int (z : PySem.Str) : gcIsi [.str z, .ty "int"] M Q = Q (.bl false) M := propext ⟨fun ⟨_, t, h, q⟩ => by cases h; exact q, fun q => ⟨by decide, "str", rfl, q⟩⟩
theorem isi_str_bool (z : PySem.Str) : gcIsi [.str z, .ty "bool"] M Q = Q (.bl false) M := propext ⟨fun ⟨_, t, h, q⟩ => by cases h; exact q, fun q => ⟨by decide, "str", rfl, q⟩⟩
theorem isi_str_str (z : PySem.Str) : gcIsi [.str z, .ty "str"] M Q = Q (.bl true) M := propext ⟨fun ⟨_, t, h, q⟩ => by cases h; exact q, fun q => ⟨by decide, "str", rfl, q⟩⟩
theorem isi_str_tuple (z : PySem.Str) : gcIsi [.str z, .ty "tuple"] M Q = Q (.bl false) M := propext ⟨fun ⟨_, t, h, q⟩ => by cases h; exact q, fun q => ⟨by decide, "str", rfl, q⟩⟩
theorem isi_str_list (z : PySem.Str) : gcIsi [.str z, .ty "list"] M Q = Q (.bl false) M := propext ⟨fun ⟨_, t, h, q⟩ => by cases h; exact q, fun q => ⟨by decide, "str", rfl, q⟩⟩
theorem isi_str_dict (z : PySem.Str) : gcIsi [.str z, .ty "dict"] M Q = Q (.bl false) M := propext ⟨fun ⟨_, t, h, q⟩ => by cases h; exact q, fun q => ⟨by decide, "str", rfl, q⟩⟩
theorem isi_tup_int (z : List D) : gcIsi [.tup z, .ty "int"] M Q = Q (.bl false) M := propext ⟨fun ⟨_, t, h, q⟩ => by cases h; exact q, fun q => ⟨by decide, "tuple", rfl, q⟩⟩
theorem isi_tup_bool (z : List D) : gcIsi [.tup z, .ty "bool"] M Q = Q (.bl false) M := propext ⟨fun ⟨_, t, h, q⟩ => by cases h; exact q, fun q => ⟨by decide, "tuple", rfl, q⟩⟩
theorem isi_tup_str (z : List D) : gcIsi [.tup z, .ty "str"] M Q = Q (.bl false) M := propext ⟨fun ⟨_, t, h, q⟩ => by cases h; exact q, fun q => ⟨by decide, "tuple", rfl, q⟩⟩
theorem isi_tup_tuple (z : List D) : gcIsi [.tup z, .ty "tuple"] M Q = Q (.bl true) M := propext ⟨fun ⟨_, t, h, q⟩ => by cases h; exact q, fun q => ⟨by decide, "tuple", rfl, q⟩⟩
theorem isi_tup_list (z : List D) : gcIsi [.tup z, .ty "list"] M Q = Q (.bl false) M := propext ⟨fun ⟨_, t, h, q⟩ => by cases h; exact q, fun q => ⟨by decide, "tuple", rfl, q⟩⟩
theorem isi_tup_dict (z : List D) : gcIsi [.tup z, .ty "dict"] M Q = Q (.bl false) M := propext ⟨fun ⟨_, t, h, q⟩ => by cases h; exact q, fun q => ⟨by decide, "tuple", rfl, q⟩⟩
theorem isi_lst_int (z : List D) : gcIsi [.lst z, .ty "int"] M Q = Q (.bl false) M := propext ⟨fun ⟨_, t, h, q⟩ => by cases h; exact q, fun q => ⟨by decide, "list", rfl, q⟩⟩
theorem isi_lst_bool (z : List D) : gcIsi [.lst z, .ty "bool"] M Q = Q (.bl false) M := propext ⟨fun ⟨_, t, h, q⟩ => by cases h; exact q, fun q => ⟨by decide, "list", rfl, q⟩⟩
theorem isi_lst_str (z : List D) : gcIsi [.lst z, .ty "str"] M Q = Q (.bl false) M := propext ⟨fun ⟨_, t, h, q⟩ => by cases h; exact q, fun q => ⟨by decide, "list", rfl, q⟩⟩
theorem isi_lst_tuple (z : List D) : gcIsi [.lst z, .ty "tuple"] M Q = Q (.bl false) M := propext ⟨fun ⟨_, t, h, q⟩ => by cases h; exact q, fun q => ⟨by decide, "list", rfl, q⟩⟩
theorem isi_lst_list (z : List D) : gcIsi [.lst z, .ty "list"] M Q = Q (.bl true) M := propext ⟨fun ⟨_, t, h, q⟩ => by cases h; exact q, fun q => ⟨by decide, "list", rfl, q⟩⟩
theorem isi_lst_dict (z : List D) : gcIsi [.lst z, .ty "dict"] M Q = Q (.bl false) M := propext ⟨fun ⟨_, t, h, q⟩ => by cases h; exact q, fun q => ⟨by decide, "list", rfl, q⟩⟩
theorem isi_dic_int (z : List (Key × D)) : gcIsi [.dic z, .ty "int"] M Q = Q (.bl false) M := propext ⟨fun ⟨_, t, h, q⟩ => by cases h; exact q, fun q => ⟨by decide, "dict", rfl, q⟩⟩
theorem isi_dic_bool (z : List (Key × D)) : gcIsi [.dic z, .ty "bool"] M Q = Q (.bl false) M := propext ⟨fun ⟨_, t, h, q⟩ => by cases h; exact q, fun q => ⟨by decide, "dict", rfl, q⟩⟩
theorem isi_dic_str (z : List (Key × D)) : gcIsi [.dic z, .ty "str"] M Q = Q (.bl false) M := propext ⟨fun ⟨_, t, h, q⟩ => by cases h; exact q, fun q => ⟨by decide, "dict", rfl, q⟩⟩
theorem isi_dic_tuple (z : List (Key × D)) : gcIsi [.dic z, .ty "tuple"] M Q = Q (.bl false) M := propext ⟨fun ⟨_, t, h, q⟩ => by cases h; exact q, fun q => ⟨by decide, "dict", rfl, q⟩⟩
theorem isi_dic_list (z : List (Key × D)) : gcIsi [.dic z, .ty "list"] M Q = Q (.bl false) M := propext ⟨fun ⟨_, t, h, q⟩ => by cases h; exact q, fun q => ⟨by decide, "dict", rfl, q⟩⟩
theorem isi_dic_dict (z : List (Key × D)) : gcIsi [.dic z, .ty "dict"] M Q = Q (.bl true) M := propext ⟨fun ⟨_, t, h, q⟩ => by cases h; exact q, fun q => ⟨by decide, "dict", rfl, q⟩⟩
end
end DL

set_option Elab.async false
set_option linter.all false
/-! DL22: connectives of values; data without references; drawing's helpers. -/
namespace DL
open PySem PySem.Spec PySem.W PyProof.Rows L2
section
variable {M : Mem} {Q : D → Mem → Prop} {r : DL.Fr} {b : Bool} {A B : Prop}
def blK (z : D) (A B : Prop) : Prop := match z with
  | .bl true => A
  | .bl false => B
  | _ => False
theorem blK_bl : blK (.bl b) A B = if b = true then A else B := by cases b <;> simp [blK]
theorem gAndV_k {ga gb : GE} : gAndV ga gb r M Q = ga r M fun d M1 => blK d (gb r M1 Q) (Q (.bl false) M1) := rfl
theorem gOrV_k {ga gb : GE} : gOrV ga gb r M Q = ga r M fun d M1 => blK d (Q (.bl true) M1) (gb r M1 Q) := rfl
theorem gCh_k {go go' : GO} {ga gb gc : GE} : gCh go go' ga gb gc r M Q = ga r M fun d M1 => gb r M1 fun e M2 => go d e M2 fun z M3 => blK z (gc r M3 fun f M4 => go' e f M4 Q) (Q (.bl false) M3) := rfl
theorem ite_bf : (if b = false then A else B) = if b = true then B else A := by cases b <;> simp
end
mutual
/-- data: no reference, no type within -/
def D.da : D → Bool
  | .ref _ | .ty _ => false
  | .tup xs | .lst xs => D.daL xs
  | .dic kvs => D.daK kvs
  | _ => true
def D.daL : List D → Bool
  | [] => true
  | d :: r => d.da && D.daL r
def D.daK : List (Key × D) → Bool
  | [] => true
  | (_, d) :: r => d.da && D.daK r
end
theorem D.daL_mem : ∀ {ds : List D}, D.daL ds = true → ∀ d ∈ ds, d.da = true
  | d :: r, h, e, he => by
    have h' : (d.da && D.daL r) = true := h
    rw [Bool.and_eq_true] at h'
    rcases List.mem_cons.mp he with rfl | he
    · exact h'.1
    · exact D.daL_mem h'.2 e he
theorem D.daL_of : ∀ {ds : List D}, (∀ d ∈ ds, d.da = true) → D.daL ds = true
  | [], _ => rfl
  | d :: r, h => by
    show (d.da && D.daL r) = true
    rw [h d (List.mem_cons_self ..), D.daL_of fun x hx => h x (List.mem_cons_of_mem _ hx)]
    rfl
theorem D.da_tup {xs : List D} : D.da (.tup xs) = D.daL xs := by simp only [D.da]
theorem D.da_lst {xs : List D} : D.da (.lst xs) = D.daL xs := by simp only [D.da]
theorem D.da_ints (ns : List Int) : D.daL (ns.map .int) = true := D.daL_of fun d hd => by
  obtain ⟨n, _, rfl⟩ := List.mem_map.mp hd
  rfl
theorem cutS_take {xs : List D} {i : Int} (h0 : 0 ≤ i) (h1 : i ≤ xs.length) : DL.cutD xs none (some i) = xs.take i.toNat := by
  unfold DL.cutD
  rw [HT.sIx_none]
  have e : HT.sIx xs.length xs.length (some i) = i.toNat := by
    have := HT.sIx_nat xs.length xs.length i.toNat
    rw [Int.toNat_of_nonneg h0] at this
    rw [this]
    omega
  rw [e, List.drop_zero, Nat.sub_zero]
theorem cutS_drop {xs : List D} {i : Int} (h0 : 0 ≤ i) : DL.cutD xs (some i) none = xs.drop i.toNat := by
  unfold DL.cutD
  have e : HT.sIx xs.length 0 (some i) = min i.toNat xs.length := by
    have := HT.sIx_nat xs.length 0 i.toNat
    rw [Int.toNat_of_nonneg h0] at this
    exact this
  rw [e, HT.sIx_none]
  by_cases h : i.toNat ≤ xs.length
  · rw [Nat.min_eq_left h, List.take_of_length_le (Nat.le_of_eq (List.length_drop ..))]
  · rw [Nat.min_eq_right (by omega), Nat.sub_self, List.take_zero, List.drop_eq_nil_of_le (by omega)]
theorem rep_one (k : Int) (d : D) : repD k [d] = List.replicate k.toNat d := by
  unfold repD
  induction k.toNat with
  | zero => rfl
  | succ n ih => rw [List.replicate_succ, List.flatten_cons, ih, List.replicate_succ]; rfl
theorem sz0 : (0 < sizeLine) = True := by rw [sizeLine_eq]; decide
theorem sz1 : (1 < sizeLine) = True := by rw [sizeLine_eq]; decide
theorem sz2 : (2 < sizeLine) = True := by rw [sizeLine_eq]; decide
theorem sz3 : (3 < sizeLine) = True := by rw [sizeLine_eq]; decide
theorem sz4 : (4 < sizeLine) = True := by rw [sizeLine_eq]; decide
theorem sz5 : (5 < sizeLine) = True := by rw [sizeLine_eq]; decide
theorem sz6 : (6 < sizeLine) = True := by rw [sizeLine_eq]; decide
theorem sz7 : (7 < sizeLine) = True := by rw [sizeLine_eq]; decide
theorem sz8 : (8 < sizeLine) = True := by rw [sizeLine_eq]; decide
theorem sz9 : (9 < sizeLine) = True := by rw [sizeLine_eq]; decide
theorem se0 : (0 ≤ sizeLine) = True := by rw [sizeLine_eq]; decide
theorem se1 : (1 ≤ sizeLine) = True := by rw [sizeLine_eq]; decide
theorem se2 : (2 ≤ sizeLine) = True := by rw [sizeLine_eq]; decide
theorem se3 : (3 ≤ sizeLine) = True := by rw [sizeLine_eq]; decide
theorem se4 : (4 ≤ sizeLine) = True := by rw [sizeLine_eq]; decide
theorem se5 : (5 ≤ sizeLine) = True := by rw [sizeLine_eq]; decide
theorem se6 : (6 ≤ sizeLine) = True := by rw [sizeLine_eq]; decide
theorem se7 : (7 ≤ sizeLine) = True := by rw [sizeLine_eq]; decide
theorem se8 : (8 ≤ sizeLine) = True := by rw [sizeLine_eq]; decide
theorem se9 : (9 ≤ sizeLine) = True := by rw [sizeLine_eq]; decide
theorem small_lt {n : Nat} (h : n < 100) : n < sizeLine := by rw [sizeLine_eq]; omega
theorem mn_congr {L L' : List Int} (h : ∀ z, z ∈ L ↔ z ∈ L') (hne : L ≠ []) : mn L = mn L' := mn_eq ((h _).mp (mn_mem hne)) fun y hy => mn_le ((h y).mpr hy)
end DL

set_option Elab.async false
set_option linter.all false
/-! DL23: loops that keep all slots but some. -/
namespace DL
open PySem PySem.Spec PySem.W PyProof.Rows L2
section
variable {gt : GG} {gb : GS} {D' : DEnds} {r0 : DL.Fr} {M0 : Mem}
theorem loop_k1 {ds : List D} (i0 : Nat) {z0 : Sl}
    (h0 : ∀ (x0 : Sl), nof x0 = true → D'.nx (r0.set i0 x0) M0)
    (h1 : ∀ d ∈ ds, ∀ (x0 : Sl), nof x0 = true → ∀ N : DL.Fr → Mem → Prop, (∀ (x0 : Sl), nof x0 = true → N (r0.set i0 x0) M0) → gt d (r0.set i0 x0) M0 fun r' M' => gb { D' with nx := N, ct := N, bk := D'.nx } r' M')
    (e : r0 = (r0.set i0 z0) := by rfl) (n0 : nof z0 = true := by first | rfl | assumption) : loopD gt gb ds D' r0 M0 := by
  have h : ∀ es : List D, (∀ d ∈ es, d ∈ ds) → ∀ (x0 : Sl), nof x0 = true → loopD gt gb es D' (r0.set i0 x0) M0 := by
    intro es
    induction es with
    | nil => exact fun _ => h0
    | cons d es ih => exact fun hs x0 nx0 => h1 d (hs d (List.mem_cons_self ..)) x0 nx0 _ (ih fun x hx => hs x (List.mem_cons_of_mem _ hx))
  have q := h ds (fun _ h => h) z0 n0
  rw [← e] at q
  exact q
theorem loop_k2 {ds : List D} (i0 i1 : Nat) {z0 z1 : Sl}
    (h0 : ∀ (x0 x1 : Sl), nof x0 = true → nof x1 = true → D'.nx ((r0.set i0 x0).set i1 x1) M0)
    (h1 : ∀ d ∈ ds, ∀ (x0 x1 : Sl), nof x0 = true → nof x1 = true → ∀ N : DL.Fr → Mem → Prop, (∀ (x0 x1 : Sl), nof x0 = true → nof x1 = true → N ((r0.set i0 x0).set i1 x1) M0) → gt d ((r0.set i0 x0).set i1 x1) M0 fun r' M' => gb { D' with nx := N, ct := N, bk := D'.nx } r' M')
    (e : r0 = ((r0.set i0 z0).set i1 z1) := by rfl) (n0 : nof z0 = true := by first | rfl | assumption) (n1 : nof z1 = true := by first | rfl | assumption) : loopD gt gb ds D' r0 M0 := by
  have h : ∀ es : List D, (∀ d ∈ es, d ∈ ds) → ∀ (x0 x1 : Sl), nof x0 = true → nof x1 = true → loopD gt gb es D' ((r0.set i0 x0).set i1 x1) M0 := by
    intro es
    induction es with
    | nil => exact fun _ => h0
    | cons d es ih => exact fun hs x0 x1 nx0 nx1 => h1 d (hs d (List.mem_cons_self ..)) x0 x1 nx0 nx1 _ (ih fun x hx => hs x (List.mem_cons_of_mem _ hx))
  have q := h ds (fun _ h => h) z0 z1 n0 n1
  rw [← e] at q
  exact q
theorem loop_k3 {ds : List D} (i0 i1 i2 : Nat) {z0 z1 z2 : Sl}
    (h0 : ∀ (x0 x1 x2 : Sl), nof x0 = true → nof x1 = true → nof x2 = true → D'.nx (((r0.set i0 x0).set i1 x1).set i2 x2) M0)
    (h1 : ∀ d ∈ ds, ∀ (x0 x1 x2 : Sl), nof x0 = true → nof x1 = true → nof x2 = true → ∀ N : DL.Fr → Mem → Prop, (∀ (x0 x1 x2 : Sl), nof x0 = true → nof x1 = true → nof x2 = true → N (((r0.set i0 x0).set i1 x1).set i2 x2) M0) → gt d (((r0.set i0 x0).set i1 x1).set i2 x2) M0 fun r' M' => gb { D' with nx := N, ct := N, bk := D'.nx } r' M')
    (e : r0 = (((r0.set i0 z0).set i1 z1).set i2 z2) := by rfl) (n0 : nof z0 = true := by first | rfl | assumption) (n1 : nof z1 = true := by first | rfl | assumption) (n2 : nof z2 = true := by first | rfl | assumption) : loopD gt gb ds D' r0 M0 := by
  have h : ∀ es : List D, (∀ d ∈ es, d ∈ ds) → ∀ (x0 x1 x2 : Sl), nof x0 = true → nof x1 = true → nof x2 = true → loopD gt gb es D' (((r0.set i0 x0).set i1 x1).set i2 x2) M0 := by
    intro es
    induction es with
    | nil => exact fun _ => h0
    | cons d es ih => exact fun hs x0 x1 x2 nx0 nx1 nx2 => h1 d (hs d (List.mem_cons_self ..)) x0 x1 x2 nx0 nx1 nx2 _ (ih fun x hx => hs x (List.mem_cons_of_mem _ hx))
  have q := h ds (fun _ h => h) z0 z1 z2 n0 n1 n2
  rw [← e] at q
  exact q
theorem loop_k4 {ds : List D} (i0 i1 i2 i3 : Nat) {z0 z1 z2 z3 : Sl}
    (h0 : ∀ (x0 x1 x2 x3 : Sl), nof x0 = true → nof x1 = true → nof x2 = true → nof x3 = true → D'.nx ((((r0.set i0 x0).set i1 x1).set i2 x2).set i3 x3) M0)
    (h1 : ∀ d ∈ ds, ∀ (x0 x1 x2 x3 : Sl), nof x0 = true → nof x1 = true → nof x2 = true → nof x3 = true → ∀ N : DL.Fr → Mem → Prop, (∀ (x0 x1 x2 x3 : Sl), nof x0 = true → nof x1 = true → nof x2 = true → nof x3 = true → N ((((r0.set i0 x0).set i1 x1).set i2 x2).set i3 x3) M0) → gt d ((((r0.set i0 x0).set i1 x1).set i2 x2).set i3 x3) M0 fun r' M' => gb { D' with nx := N, ct := N, bk := D'.nx } r' M')
    (e : r0 = ((((r0.set i0 z0).set i1 z1).set i2 z2).set i3 z3) := by rfl) (n0 : nof z0 = true := by first | rfl | assumption) (n1 : nof z1 = true := by first | rfl | assumption) (n2 : nof z2 = true := by first | rfl | assumption) (n3 : nof z3 = true := by first | rfl | assumption) : loopD gt gb ds D' r0 M0 := by
  have h : ∀ es : List D, (∀ d ∈ es, d ∈ ds) → ∀ (x0 x1 x2 x3 : Sl), nof x0 = true → nof x1 = true → nof x2 = true → nof x3 = true → loopD gt gb es D' ((((r0.set i0 x0).set i1 x1).set i2 x2).set i3 x3) M0 := by
    intro es
    induction es with
    | nil => exact fun _ => h0
    | cons d es ih => exact fun hs x0 x1 x2 x3 nx0 nx1 nx2 nx3 => h1 d (hs d (List.mem_cons_self ..)) x0 x1 x2 x3 nx0 nx1 nx2 nx3 _ (ih fun x hx => hs x (List.mem_cons_of_mem _ hx))
  have q := h ds (fun _ h => h) z0 z1 z2 z3 n0 n1 n2 n3
  rw [← e] at q
  exact q
theorem loop_k5 {ds : List D} (i0 i1 i2 i3 i4 : Nat) {z0 z1 z2 z3 z4 : Sl}
    (h0 : ∀ (x0 x1 x2 x3 x4 : Sl), nof x0 = true → nof x1 = true → nof x2 = true → nof x3 = true → nof x4 = true → D'.nx (((((r0.set i0 x0).set i1 x1).set i2 x2).set i3 x3).set i4 x4) M0)
    (h1 : ∀ d ∈ ds, ∀ (x0 x1 x2 x3 x4 : Sl), nof x0 = true → nof x1 = true → nof x2 = true → nof x3 = true → nof x4 = true → ∀ N : DL.Fr → Mem → Prop, (∀ (x0 x1 x2 x3 x4 : Sl), nof x0 = true → nof x1 = true → nof x2 = true → nof x3 = true → nof x4 = true → N (((((r0.set i0 x0).set i1 x1).set i2 x2).set i3 x3).set i4 x4) M0) → gt d (((((r0.set i0 x0).set i1 x1).set i2 x2).set i3 x3).set i4 x4) M0 fun r' M' => gb { D' with nx := N, ct := N, bk := D'.nx } r' M')
    (e : r0 = (((((r0.set i0 z0).set i1 z1).set i2 z2).set i3 z3).set i4 z4) := by rfl) (n0 : nof z0 = true := by first | rfl | assumption) (n1 : nof z1 = true := by first | rfl | assumption) (n2 : nof z2 = true := by first | rfl | assumption) (n3 : nof z3 = true := by first | rfl | assumption) (n4 : nof z4 = true := by first | rfl | assumption) : loopD gt gb ds D' r0 M0 := by
  have h : ∀ es : List D, (∀ d ∈ es, d ∈ ds) → ∀ (x0 x1 x2 x3 x4 : Sl), nof x0 = true → nof x1 = true → nof x2 = true → nof x3 = true → nof x4 = true → loopD gt gb es D' (((((r0.set i0 x0).set i1 x1).set i2 x2).set i3 x3).set i4 x4) M0 := by
    intro es
    induction es with
    | nil => exact fun _ => h0
    | cons d es ih => exact fun hs x0 x1 x2 x3 x4 nx0 nx1 nx2 nx3 nx4 => h1 d (hs d (List.mem_cons_self ..)) x0 x1 x2 x3 x4 nx0 nx1 nx2 nx3 nx4 _ (ih fun x hx => hs x (List.mem_cons_of_mem _ hx))
  have q := h ds (fun _ h => h) z0 z1 z2 z3 z4 n0 n1 n2 n3 n4
  rw [← e] at q
  exact q
theorem loop_k6 {ds : List D} (i0 i1 i2 i3 i4 i5 : Nat) {z0 z1 z2 z3 z4 z5 : Sl}
    (h0 : ∀ (x0 x1 x2 x3 x4 x5 : Sl), nof x0 = true → nof x1 = true → nof x2 = true → nof x3 = true → nof x4 = true → nof x5 = true → D'.nx ((((((r0.set i0 x0).set i1 x1).set i2 x2).set i3 x3).set i4 x4).set i5 x5) M0)
    (h1 : ∀ d ∈ ds, ∀ (x0 x1 x2 x3 x4 x5 : Sl), nof x0 = true → nof x1 = true → nof x2 = true → nof x3 = true → nof x4 = true → nof x5 = true → ∀ N : DL.Fr → Mem → Prop, (∀ (x0 x1 x2 x3 x4 x5 : Sl), nof x0 = true → nof x1 = true → nof x2 = true → nof x3 = true → nof x4 = true → nof x5 = true → N ((((((r0.set i0 x0).set i1 x1).set i2 x2).set i3 x3).set i4 x4).set i5 x5) M0) → gt d ((((((r0.set i0 x0).set i1 x1).set i2 x2).set i3 x3).set i4 x4).set i5 x5) M0 fun r' M' => gb { D' with nx := N, ct := N, bk := D'.nx } r' M')
    (e : r0 = ((((((r0.set i0 z0).set i1 z1).set i2 z2).set i3 z3).set i4 z4).set i5 z5) := by rfl) (n0 : nof z0 = true := by first | rfl | assumption) (n1 : nof z1 = true := by first | rfl | assumption) (n2 : nof z2 = true := by first | rfl | assumption) (n3 : nof z3 = true := by first | rfl | assumption) (n4 : nof z4 = true := by first | rfl | assumption) (n5 : nof z5 = true := by first | rfl | assumption) : loopD gt gb ds D' r0 M0 := by
  have h : ∀ es : List D, (∀ d ∈ es, d ∈ ds) → ∀ (x0 x1 x2 x3 x4 x5 : Sl), nof x0 = true → nof x1 = true → nof x2 = true → nof x3 = true → nof x4 = true → nof x5 = true → loopD gt gb es D' ((((((r0.set i0 x0).set i1 x1).set i2 x2).set i3 x3).set i4 x4).set i5 x5) M0 := by
    intro es
    induction es with
    | nil => exact fun _ => h0
    | cons d es ih => exact fun hs x0 x1 x2 x3 x4 x5 nx0 nx1 nx2 nx3 nx4 nx5 => h1 d (hs d (List.mem_cons_self ..)) x0 x1 x2 x3 x4 x5 nx0 nx1 nx2 nx3 nx4 nx5 _ (ih fun x hx => hs x (List.mem_cons_of_mem _ hx))
  have q := h ds (fun _ h => h) z0 z1 z2 z3 z4 z5 n0 n1 n2 n3 n4 n5
  rw [← e] at q
  exact q
theorem loop_k7 {ds : List D} (i0 i1 i2 i3 i4 i5 i6 : Nat) {z0 z1 z2 z3 z4 z5 z6 : Sl}
    (h0 : ∀ (x0 x1 x2 x3 x4 x5 x6 : Sl), nof x0 = true → nof x1 = true → nof x2 = true → nof x3 = true → nof x4 = true → nof x5 = true → nof x6 = true → D'.nx (((((((r0.set i0 x0).set i1 x1).set i2 x2).set i3 x3).set i4 x4).set i5 x5).set i6 x6) M0)
    (h1 : ∀ d ∈ ds, ∀ (x0 x1 x2 x3 x4 x5 x6 : Sl), nof x0 = true → nof x1 = true → nof x2 = true → nof x3 = true → nof x4 = true → nof x5 = true → nof x6 = true → ∀ N : DL.Fr → Mem → Prop, (∀ (x0 x1 x2 x3 x4 x5 x6 : Sl), nof x0 = true → nof x1 = true → nof x2 = true → nof x3 = true → nof x4 = true → nof x5 = true → nof x6 = true → N (((((((r0.set i0 x0).set i1 x1).set i2 x2).set i3 x3).set i4 x4).set i5 x5).set i6 x6) M0) → gt d (((((((r0.set i0 x0).set i1 x1).set i2 x2).set i3 x3).set i4 x4).set i5 x5).set i6 x6) M0 fun r' M' => gb { D' with nx := N, ct := N, bk := D'.nx } r' M')
    (e : r0 = (((((((r0.set i0 z0).set i1 z1).set i2 z2).set i3 z3).set i4 z4).set i5 z5).set i6 z6) := by rfl) (n0 : nof z0 = true := by first | rfl | assumption) (n1 : nof z1 = true := by first | rfl | assumption) (n2 : nof z2 = true := by first | rfl | assumption) (n3 : nof z3 = true := by first | rfl | assumption) (n4 : nof z4 = true := by first | rfl | assumption) (n5 : nof z5 = true := by first | rfl | assumption) (n6 : nof z6 = true := by first | rfl | assumption) : loopD gt gb ds D' r0 M0 := by
  have h : ∀ es : List D, (∀ d ∈ es, d ∈ ds) → ∀ (x0 x1 x2 x3 x4 x5 x6 : Sl), nof x0 = true → nof x1 = true → nof x2 = true → nof x3 = true → nof x4 = true → nof x5 = true → nof x6 = true → loopD gt gb es D' (((((((r0.set i0 x0).set i1 x1).set i2 x2).set i3 x3).set i4 x4).set i5 x5).set i6 x6) M0 := by
    intro es
    induction es with
    | nil => exact fun _ => h0
    | cons d es ih => exact fun hs x0 x1 x2 x3 x4 x5 x6 nx0 nx1 nx2 nx3 nx4 nx5 nx6 => h1 d (hs d (List.mem_cons_self ..)) x0 x1 x2 x3 x4 x5 x6 nx0 nx1 nx2 nx3 nx4 nx5 nx6 _ (ih fun x hx => hs x (List.mem_cons_of_mem _ hx))
  have q := h ds (fun _ h => h) z0 z1 z2 z3 z4 z5 z6 n0 n1 n2 n3 n4 n5 n6
  rw [← e] at q
  exact q
theorem loop_k8 {ds : List D} (i0 i1 i2 i3 i4 i5 i6 i7 : Nat) {z0 z1 z2 z3 z4 z5 z6 z7 : Sl}
    (h0 : ∀ (x0 x1 x2 x3 x4 x5 x6 x7 : Sl), nof x0 = true → nof x1 = true → nof x2 = true → nof x3 = true → nof x4 = true → nof x5 = true → nof x6 = true → nof x7 = true → D'.nx ((((((((r0.set i0 x0).set i1 x1).set i2 x2).set i3 x3).set i4 x4).set i5 x5).set i6 x6).set i7 x7) M0)
    (h1 : ∀ d ∈ ds, ∀ (x0 x1 x2 x3 x4 x5 x6 x7 : Sl), nof x0 = true → nof x1 = true → nof x2 = true → nof x3 = true → nof x4 = true → nof x5 = true → nof x6 = true → nof x7 = true → ∀ N : DL.Fr → Mem → Prop, (∀ (x0 x1 x2 x3 x4 x5 x6 x7 : Sl), nof x0 = true → nof x1 = true → nof x2 = true → nof x3 = true → nof x4 = true → nof x5 = true → nof x6 = true → nof x7 = true → N ((((((((r0.set i0 x0).set i1 x1).set i2 x2).set i3 x3).set i4 x4).set i5 x5).set i6 x6).set i7 x7) M0) → gt d ((((((((r0.set i0 x0).set i1 x1).set i2 x2).set i3 x3).set i4 x4).set i5 x5).set i6 x6).set i7 x7) M0 fun r' M' => gb { D' with nx := N, ct := N, bk := D'.nx } r' M')
    (e : r0 = ((((((((r0.set i0 z0).set i1 z1).set i2 z2).set i3 z3).set i4 z4).set i5 z5).set i6 z6).set i7 z7) := by rfl) (n0 : nof z0 = true := by first | rfl | assumption) (n1 : nof z1 = true := by first | rfl | assumption) (n2 : nof z2 = true := by first | rfl | assumption) (n3 : nof z3 = true := by first | rfl | assumption) (n4 : nof z4 = true := by first | rfl | assumption) (n5 : nof z5 = true := by first | rfl | assumption) (n6 : nof z6 = true := by first | rfl | assumption) (n7 : nof z7 = true := by first | rfl | assumption) : loopD gt gb ds D' r0 M0 := by
  have h : ∀ es : List D, (∀ d ∈ es, d ∈ ds) → ∀ (x0 x1 x2 x3 x4 x5 x6 x7 : Sl), nof x0 = true → nof x1 = true → nof x2 = true → nof x3 = true → nof x4 = true → nof x5 = true → nof x6 = true → nof x7 = true → loopD gt gb es D' ((((((((r0.set i0 x0).set i1 x1).set i2 x2).set i3 x3).set i4 x4).set i5 x5).set i6 x6).set i7 x7) M0 := by
    intro es
    induction es with
    | nil => exact fun _ => h0
    | cons d es ih => exact fun hs x0 x1 x2 x3 x4 x5 x6 x7 nx0 nx1 nx2 nx3 nx4 nx5 nx6 nx7 => h1 d (hs d (List.mem_cons_self ..)) x0 x1 x2 x3 x4 x5 x6 x7 nx0 nx1 nx2 nx3 nx4 nx5 nx6 nx7 _ (ih fun x hx => hs x (List.mem_cons_of_mem _ hx))
  have q := h ds (fun _ h => h) z0 z1 z2 z3 z4 z5 z6 z7 n0 n1 n2 n3 n4 n5 n6 n7
  rw [← e] at q
  exact q
theorem loop_k9 {ds : List D} (i0 i1 i2 i3 i4 i5 i6 i7 i8 : Nat) {z0 z1 z2 z3 z4 z5 z6 z7 z8 : Sl}
    (h0 : ∀ (x0 x1 x2 x3 x4 x5 x6 x7 x8 : Sl), nof x0 = true → nof x1 = true → nof x2 = true → nof x3 = true → nof x4 = true → nof x5 = true → nof x6 = true → nof x7 = true → nof x8 = true → D'.nx (((((((((r0.set i0 x0).set i1 x1).set i2 x2).set i3 x3).set i4 x4).set i5 x5).set i6 x6).set i7 x7).set i8 x8) M0)
    (h1 : ∀ d ∈ ds, ∀ (x0 x1 x2 x3 x4 x5 x6 x7 x8 : Sl), nof x0 = true → nof x1 = true → nof x2 = true → nof x3 = true → nof x4 = true → nof x5 = true → nof x6 = true → nof x7 = true → nof x8 = true → ∀ N : DL.Fr → Mem → Prop, (∀ (x0 x1 x2 x3 x4 x5 x6 x7 x8 : Sl), nof x0 = true → nof x1 = true → nof x2 = true → nof x3 = true → nof x4 = true → nof x5 = true → nof x6 = true → nof x7 = true → nof x8 = true → N (((((((((r0.set i0 x0).set i1 x1).set i2 x2).set i3 x3).set i4 x4).set i5 x5).set i6 x6).set i7 x7).set i8 x8) M0) → gt d (((((((((r0.set i0 x0).set i1 x1).set i2 x2).set i3 x3).set i4 x4).set i5 x5).set i6 x6).set i7 x7).set i8 x8) M0 fun r' M' => gb { D' with nx := N, ct := N, bk := D'.nx } r' M')
    (e : r0 = (((((((((r0.set i0 z0).set i1 z1).set i2 z2).set i3 z3).set i4 z4).set i5 z5).set i6 z6).set i7 z7).set i8 z8) := by rfl) (n0 : nof z0 = true := by first | rfl | assumption) (n1 : nof z1 = true := by first | rfl | assumption) (n2 : nof z2 = true := by first | rfl | assumption) (n3 : nof z3 = true := by first | rfl | assumption) (n4 : nof z4 = true := by first | rfl | assumption) (n5 : nof z5 = true := by first | rfl | assumption) (n6 : nof z6 = true := by first | rfl | assumption) (n7 : nof z7 = true := by first | rfl | assumption) (n8 : nof z8 = true := by first | rfl | assumption) : loopD gt gb ds D' r0 M0 := by
  have h : ∀ es : List D, (∀ d ∈ es, d ∈ ds) → ∀ (x0 x1 x2 x3 x4 x5 x6 x7 x8 : Sl), nof x0 = true → nof x1 = true → nof x2 = true → nof x3 = true → nof x4 = true → nof x5 = true → nof x6 = true → nof x7 = true → nof x8 = true → loopD gt gb es D' (((((((((r0.set i0 x0).set i1 x1).set i2 x2).set i3 x3).set i4 x4).set i5 x5).set i6 x6).set i7 x7).set i8 x8) M0 := by
    intro es
    induction es with
    | nil => exact fun _ => h0
    | cons d es ih => exact fun hs x0 x1 x2 x3 x4 x5 x6 x7 x8 nx0 nx1 nx2 nx3 nx4 nx5 nx6 nx7 nx8 => h1 d (hs d (List.mem_cons_self ..)) x0 x1 x2 x3 x4 x5 x6 x7 x8 nx0 nx1 nx2 nx3 nx4 nx5 nx6 nx7 nx8 _ (ih fun x hx => hs x (List.mem_cons_of_mem _ hx))
  have q := h ds (fun _ h => h) z0 z1 z2 z3 z4 z5 z6 z7 z8 n0 n1 n2 n3 n4 n5 n6 n7 n8
  rw [← e] at q
  exact q
theorem loop_k10 {ds : List D} (i0 i1 i2 i3 i4 i5 i6 i7 i8 i9 : Nat) {z0 z1 z2 z3 z4 z5 z6 z7 z8 z9 : Sl}
    (h0 : ∀ (x0 x1 x2 x3 x4 x5 x6 x7 x8 x9 : Sl), nof x0 = true → nof x1 = true → nof x2 = true → nof x3 = true → nof x4 = true → nof x5 = true → nof x6 = true → nof x7 = true → nof x8 = true → nof x9 = true → D'.nx ((((((((((r0.set i0 x0).set i1 x1).set i2 x2).set i3 x3).set i4 x4).set i5 x5).set i6 x6).set i7 x7).set i8 x8).set i9 x9) M0)
    (h1 : ∀ d ∈ ds, ∀ (x0 x1 x2 x3 x4 x5 x6 x7 x8 x9 : Sl), nof x0 = true → nof x1 = true → nof x2 = true → nof x3 = true → nof x4 = true → nof x5 = true → nof x6 = true → nof x7 = true → nof x8 = true → nof x9 = true → ∀ N : DL.Fr → Mem → Prop, (∀ (x0 x1 x2 x3 x4 x5 x6 x7 x8 x9 : Sl), nof x0 = true → nof x1 = true → nof x2 = true → nof x3 = true → nof x4 = true → nof x5 = true → nof x6 = true → nof x7 = true → nof x8 = true → nof x9 = true → N ((((((((((r0.set i0 x0).set i1 x1).set i2 x2).set i3 x3).set i4 x4).set i5 x5).set i6 x6).set i7 x7).set i8 x8).set i9 x9) M0) → gt d ((((((((((r0.set i0 x0).set i1 x1).set i2 x2).set i3 x3).set i4 x4).set i5 x5).set i6 x6).set i7 x7).set i8 x8).set i9 x9) M0 fun r' M' => gb { D' with nx := N, ct := N, bk := D'.nx } r' M')
    (e : r0 = ((((((((((r0.set i0 z0).set i1 z1).set i2 z2).set i3 z3).set i4 z4).set i5 z5).set i6 z6).set i7 z7).set i8 z8).set i9 z9) := by rfl) (n0 : nof z0 = true := by first | rfl | assumption) (n1 : nof z1 = true := by first | rfl | assumption) (n2 : nof z2 = true := by first | rfl | assumption) (n3 : nof z3 = true := by first | rfl | assumption) (n4 : nof z4 = true := by first | rfl | assumption) (n5 : nof z5 = true := by first | rfl | assumption) (n6 : nof z6 = true := by first | rfl | assumption) (n7 : nof z7 = true := by first | rfl | assumption) (n8 : nof z8 = true := by first | rfl | assumption) (n9 : nof z9 = true := by first | rfl | assumption) : loopD gt gb ds D' r0 M0 := by
  have h : ∀ es : List D, (∀ d ∈ es, d ∈ ds) → ∀ (x0 x1 x2 x3 x4 x5 x6 x7 x8 x9 : Sl), nof x0 = true → nof x1 = true → nof x2 = true → nof x3 = true → nof x4 = true → nof x5 = true → nof x6 = true → nof x7 = true → nof x8 = true → nof x9 = true → loopD gt gb es D' ((((((((((r0.set i0 x0).set i1 x1).set i2 x2).set i3 x3).set i4 x4).set i5 x5).set i6 x6).set i7 x7).set i8 x8).set i9 x9) M0 := by
    intro es
    induction es with
    | nil => exact fun _ => h0
    | cons d es ih => exact fun hs x0 x1 x2 x3 x4 x5 x6 x7 x8 x9 nx0 nx1 nx2 nx3 nx4 nx5 nx6 nx7 nx8 nx9 => h1 d (hs d (List.mem_cons_self ..)) x0 x1 x2 x3 x4 x5 x6 x7 x8 x9 nx0 nx1 nx2 nx3 nx4 nx5 nx6 nx7 nx8 nx9 _ (ih fun x hx => hs x (List.mem_cons_of_mem _ hx))
  have q := h ds (fun _ h => h) z0 z1 z2 z3 z4 z5 z6 z7 z8 z9 n0 n1 n2 n3 n4 n5 n6 n7 n8 n9
  rw [← e] at q
  exact q
theorem loop_k11 {ds : List D} (i0 i1 i2 i3 i4 i5 i6 i7 i8 i9 i10 : Nat) {z0 z1 z2 z3 z4 z5 z6 z7 z8 z9 z10 : Sl}
    (h0 : ∀ (x0 x1 x2 x3 x4 x5 x6 x7 x8 x9 x10 : Sl), nof x0 = true → nof x1 = true → nof x2 = true → nof x3 = true → nof x4 = true → nof x5 = true → nof x6 = true → nof x7 = true → nof x8 = true → nof x9 = true → nof x10 = true → D'.nx (((((((((((r0.set i0 x0).set i1 x1).set i2 x2).set i3 x3).set i4 x4).set i5 x5).set i6 x6).set i7 x7).set i8 x8).set i9 x9).set i10 x10) M0)
    (h1 : ∀ d ∈ ds, ∀ (x0 x1 x2 x3 x4 x5 x6 x7 x8 x9 x10 : Sl), nof x0 = true → nof x1 = true → nof x2 = true → nof x3 = true → nof x4 = true → nof x5 = true → nof x6 = true → nof x7 = true → nof x8 = true → nof x9 = true → nof x10 = true → ∀ N : DL.Fr → Mem → Prop, (∀ (x0 x1 x2 x3 x4 x5 x6 x7 x8 x9 x10 : Sl), nof x0 = true → nof x1 = true → nof x2 = true → nof x3 = true → nof x4 = true → nof x5 = true → nof x6 = true → nof x7 = true → nof x8 = true → nof x9 = true → nof x10 = true → N (((((((((((r0.set i0 x0).set i1 x1).set i2 x2).set i3 x3).set i4 x4).set i5 x5).set i6 x6).set i7 x7).set i8 x8).set i9 x9).set i10 x10) M0) → gt d (((((((((((r0.set i0 x0).set i1 x1).set i2 x2).set i3 x3).set i4 x4).set i5 x5).set i6 x6).set i7 x7).set i8 x8).set i9 x9).set i10 x10) M0 fun r' M' => gb { D' with nx := N, ct := N, bk := D'.nx } r' M')
    (e : r0 = (((((((((((r0.set i0 z0).set i1 z1).set i2 z2).set i3 z3).set i4 z4).set i5 z5).set i6 z6).set i7 z7).set i8 z8).set i9 z9).set i10 z10) := by rfl) (n0 : nof z0 = true := by first | rfl | assumption) (n1 : nof z1 = true := by first | rfl | assumption) (n2 : nof z2 = true := by first | rfl | assumption) (n3 : nof z3 = true := by first | rfl | assumption) (n4 : nof z4 = true := by first | rfl | assumption) (n5 : nof z5 = true := by first | rfl | assumption) (n6 : nof z6 = true := by first | rfl | assumption) (n7 : nof z7 = true := by first | rfl | assumption) (n8 : nof z8 = true := by first | rfl | assumption) (n9 : nof z9 = true := by first | rfl | assumption) (n10 : nof z10 = true := by first | rfl | assumption) : loopD gt gb ds D' r0 M0 := by
  have h : ∀ es : List D, (∀ d ∈ es, d ∈ ds) → ∀ (x0 x1 x2 x3 x4 x5 x6 x7 x8 x9 x10 : Sl), nof x0 = true → nof x1 = true → nof x2 = true → nof x3 = true → nof x4 = true → nof x5 = true → nof x6 = true → nof x7 = true → nof x8 = true → nof x9 = true → nof x10 = true → loopD gt gb es D' (((((((((((r0.set i0 x0).set i1 x1).set i2 x2).set i3 x3).set i4 x4).set i5 x5).set i6 x6).set i7 x7).set i8 x8).set i9 x9).set i10 x10) M0 := by
    intro es
    induction es with
    | nil => exact fun _ => h0
    | cons d es ih => exact fun hs x0 x1 x2 x3 x4 x5 x6 x7 x8 x9 x10 nx0 nx1 nx2 nx3 nx4 nx5 nx6 nx7 nx8 nx9 nx10 => h1 d (hs d (List.mem_cons_self ..)) x0 x1 x2 x3 x4 x5 x6 x7 x8 x9 x10 nx0 nx1 nx2 nx3 nx4 nx5 nx6 nx7 nx8 nx9 nx10 _ (ih fun x hx => hs x (List.mem_cons_of_mem _ hx))
  have q := h ds (fun _ h => h) z0 z1 z2 z3 z4 z5 z6 z7 z8 z9 z10 n0 n1 n2 n3 n4 n5 n6 n7 n8 n9 n10
  rw [← e] at q
  exact q
theorem loop_k12 {ds : List D} (i0 i1 i2 i3 i4 i5 i6 i7 i8 i9 i10 i11 : Nat) {z0 z1 z2 z3 z4 z5 z6 z7 z8 z9 z10 z11 : Sl}
    (h0 : ∀ (x0 x1 x2 x3 x4 x5 x6 x7 x8 x9 x10 x11 : Sl), nof x0 = true → nof x1 = true → nof x2 = true → nof x3 = true → nof x4 = true → nof x5 = true → nof x6 = true → nof x7 = true → nof x8 = true → nof x9 = true → nof x10 = true → nof x11 = true → D'.nx ((((((((((((r0.set i0 x0).set i1 x1).set i2 x2).set i3 x3).set i4 x4).set i5 x5).set i6 x6).set i7 x7).set i8 x8).set i9 x9).set i10 x10).set i11 x11) M0)
    (h1 : ∀ d ∈ ds, ∀ (x0 x1 x2 x3 x4 x5 x6 x7 x8 x9 x10 x11 : Sl), nof x0 = true → nof x1 = true → nof x2 = true → nof x3 = true → nof x4 = true → nof x5 = true → nof x6 = true → nof x7 = true → nof x8 = true → nof x9 = true → nof x10 = true → nof x11 = true → ∀ N : DL.Fr → Mem → Prop, (∀ (x0 x1 x2 x3 x4 x5 x6 x7 x8 x9 x10 x11 : Sl), nof x0 = true → nof x1 = true → nof x2 = true → nof x3 = true → nof x4 = true → nof x5 = true → nof x6 = true → nof x7 = true → nof x8 = true → nof x9 = true → nof x10 = true → nof x11 = true → N ((((((((((((r0.set i0 x0).set i1 x1).set i2 x2).set i3 x3).set i4 x4).set i5 x5).set i6 x6).set i7 x7).set i8 x8).set i9 x9).set i10 x10).set i11 x11) M0) → gt d ((((((((((((r0.set i0 x0).set i1 x1).set i2 x2).set i3 x3).set i4 x4).set i5 x5).set i6 x6).set i7 x7).set i8 x8).set i9 x9).set i10 x10).set i11 x11) M0 fun r' M' => gb { D' with nx := N, ct := N, bk := D'.nx } r' M')
    (e : r0 = ((((((((((((r0.set i0 z0).set i1 z1).set i2 z2).set i3 z3).set i4 z4).set i5 z5).set i6 z6).set i7 z7).set i8 z8).set i9 z9).set i10 z10).set i11 z11) := by rfl) (n0 : nof z0 = true := by first | rfl | assumption) (n1 : nof z1 = true := by first | rfl | assumption) (n2 : nof z2 = true := by first | rfl | assumption) (n3 : nof z3 = true := by first | rfl | assumption) (n4 : nof z4 = true := by first | rfl | assumption) (n5 : nof z5 = true := by first | rfl | assumption) (n6 : nof z6 = true := by first | rfl | assumption) (n7 : nof z7 = true := by first | rfl | assumption) (n8 : nof z8 = true := by first | rfl | assumption) (n9 : nof z9 = true := by first | rfl | assumption) (n10 : nof z10 = true := by first | rfl | assumption) (n11 : nof z11 = true := by first | rfl | assumption) : loopD gt gb ds D' r0 M0 := by
  have h : ∀ es : List D, (∀ d ∈ es, d ∈ ds) → ∀ (x0 x1 x2 x3 x4 x5 x6 x7 x8 x9 x10 x11 : Sl), nof x0 = true → nof x1 = true → nof x2 = true → nof x3 = true → nof x4 = true → nof x5 = true → nof x6 = true → nof x7 = true → nof x8 = true → nof x9 = true → nof x10 = true → nof x11 = true → loopD gt gb es D' ((((((((((((r0.set i0 x0).set i1 x1).set i2 x2).set i3 x3).set i4 x4).set i5 x5).set i6 x6).set i7 x7).set i8 x8).set i9 x9).set i10 x10).set i11 x11) M0 := by
    intro es
    induction es with
    | nil => exact fun _ => h0
    | cons d es ih => exact fun hs x0 x1 x2 x3 x4 x5 x6 x7 x8 x9 x10 x11 nx0 nx1 nx2 nx3 nx4 nx5 nx6 nx7 nx8 nx9 nx10 nx11 => h1 d (hs d (List.mem_cons_self ..)) x0 x1 x2 x3 x4 x5 x6 x7 x8 x9 x10 x11 nx0 nx1 nx2 nx3 nx4 nx5 nx6 nx7 nx8 nx9 nx10 nx11 _ (ih fun x hx => hs x (List.mem_cons_of_mem _ hx))
  have q := h ds (fun _ h => h) z0 z1 z2 z3 z4 z5 z6 z7 z8 z9 z10 z11 n0 n1 n2 n3 n4 n5 n6 n7 n8 n9 n10 n11
  rw [← e] at q
  exact q
theorem loop_k13 {ds : List D} (i0 i1 i2 i3 i4 i5 i6 i7 i8 i9 i10 i11 i12 : Nat) {z0 z1 z2 z3 z4 z5 z6 z7 z8 z9 z10 z11 z12 : Sl}
    (h0 : ∀ (x0 x1 x2 x3 x4 x5 x6 x7 x8 x9 x10 x11 x12 : Sl), nof x0 = true → nof x1 = true → nof x2 = true → nof x3 = true → nof x4 = true → nof x5 = true → nof x6 = true → nof x7 = true → nof x8 = true → nof x9 = true → nof x10 = true → nof x11 = true → nof x12 = true → D'.nx (((((((((((((r0.set i0 x0).set i1 x1).set i2 x2).set i3 x3).set i4 x4).set i5 x5).set i6 x6).set i7 x7).set i8 x8).set i9 x9).set i10 x10).set i11 x11).set i12 x12) M0)
    (h1 : ∀ d ∈ ds, ∀ (x0 x1 x2 x3 x4 x5 x6 x7 x8 x9 x10 x11 x12 : Sl), nof x0 = true → nof x1 = true → nof x2 = true → nof x3 = true → nof x4 = true → nof x5 = true → nof x6 = true → nof x7 = true → nof x8 = true → nof x9 = true → nof x10 = true → nof x11 = true → nof x12 = true → ∀ N : DL.Fr → Mem → Prop, (∀ (x0 x1 x2 x3 x4 x5 x6 x7 x8 x9 x10 x11 x12 : Sl), nof x0 = true → nof x1 = true → nof x2 = true → nof x3 = true → nof x4 = true → nof x5 = true → nof x6 = true → nof x7 = true → nof x8 = true → nof x9 = true → nof x10 = true → nof x11 = true → nof x12 = true → N (((((((((((((r0.set i0 x0).set i1 x1).set i2 x2).set i3 x3).set i4 x4).set i5 x5).set i6 x6).set i7 x7).set i8 x8).set i9 x9).set i10 x10).set i11 x11).set i12 x12) M0) → gt d (((((((((((((r0.set i0 x0).set i1 x1).set i2 x2).set i3 x3).set i4 x4).set i5 x5).set i6 x6).set i7 x7).set i8 x8).set i9 x9).set i10 x10).set i11 x11).set i12 x12) M0 fun r' M' => gb { D' with nx := N, ct := N, bk := D'.nx } r' M')
    (e : r0 = (((((((((((((r0.set i0 z0).set i1 z1).set i2 z2).set i3 z3).set i4 z4).set i5 z5).set i6 z6).set i7 z7).set i8 z8).set i9 z9).set i10 z10).set i11 z11).set i12 z12) := by rfl) (n0 : nof z0 = true := by first | rfl | assumption) (n1 : nof z1 = true := by first | rfl | assumption) (n2 : nof z2 = true := by first | rfl | assumption) (n3 : nof z3 = true := by first | rfl | assumption) (n4 : nof z4 = true := by first | rfl | assumption) (n5 : nof z5 = true := by first | rfl | assumption) (n6 : nof z6 = true := by first | rfl | assumption) (n7 : nof z7 = true := by first | rfl | assumption) (n8 : nof z8 = true := by first | rfl | assumption) (n9 : nof z9 = true := by first | rfl | assumption) (n10 : nof z10 = true := by first | rfl | assumption) (n11 : nof z11 = true := by first | rfl | assumption) (n12 : nof z12 = true := by first | rfl | assumption) : loopD gt gb ds D' r0 M0 := by
  have h : ∀ es : List D, (∀ d ∈ es, d ∈ ds) → ∀ (x0 x1 x2 x3 x4 x5 x6 x7 x8 x9 x10 x11 x12 : Sl), nof x0 = true → nof x1 = true → nof x2 = true → nof x3 = true → nof x4 = true → nof x5 = true → nof x6 = true → nof x7 = true → nof x8 = true → nof x9 = true → nof x10 = true → nof x11 = true → nof x12 = true → loopD gt gb es D' (((((((((((((r0.set i0 x0).set i1 x1).set i2 x2).set i3 x3).set i4 x4).set i5 x5).set i6 x6).set i7 x7).set i8 x8).set i9 x9).set i10 x10).set i11 x11).set i12 x12) M0 := by
    intro es
    induction es with
    | nil => exact fun _ => h0
    | cons d es ih => exact fun hs x0 x1 x2 x3 x4 x5 x6 x7 x8 x9 x10 x11 x12 nx0 nx1 nx2 nx3 nx4 nx5 nx6 nx7 nx8 nx9 nx10 nx11 nx12 => h1 d (hs d (List.mem_cons_self ..)) x0 x1 x2 x3 x4 x5 x6 x7 x8 x9 x10 x11 x12 nx0 nx1 nx2 nx3 nx4 nx5 nx6 nx7 nx8 nx9 nx10 nx11 nx12 _ (ih fun x hx => hs x (List.mem_cons_of_mem _ hx))
  have q := h ds (fun _ h => h) z0 z1 z2 z3 z4 z5 z6 z7 z8 z9 z10 z11 z12 n0 n1 n2 n3 n4 n5 n6 n7 n8 n9 n10 n11 n12
  rw [← e] at q
  exact q
theorem loop_k14 {ds : List D} (i0 i1 i2 i3 i4 i5 i6 i7 i8 i9 i10 i11 i12 i13 : Nat) {z0 z1 z2 z3 z4 z5 z6 z7 z8 z9 z10 z11 z12 z13 : Sl}
    (h0 : ∀ (x0 x1 x2 x3 x4 x5 x6 x7 x8 x9 x10 x11 x12 x13 : Sl), nof x0 = true → nof x1 = true → nof x2 = true → nof x3 = true → nof x4 = true → nof x5 = true → nof x6 = true → nof x7 = true → nof x8 = true → nof x9 = true → nof x10 = true → nof x11 = true → nof x12 = true → nof x13 = true → D'.nx ((((((((((((((r0.set i0 x0).set i1 x1).set i2 x2).set i3 x3).set i4 x4).set i5 x5).set i6 x6).set i7 x7).set i8 x8).set i9 x9).set i10 x10).set i11 x11).set i12 x12).set i13 x13) M0)
    (h1 : ∀ d ∈ ds, ∀ (x0 x1 x2 x3 x4 x5 x6 x7 x8 x9 x10 x11 x12 x13 : Sl), nof x0 = true → nof x1 = true → nof x2 = true → nof x3 = true → nof x4 = true → nof x5 = true → nof x6 = true → nof x7 = true → nof x8 = true → nof x9 = true → nof x10 = true → nof x11 = true → nof x12 = true → nof x13 = true → ∀ N : DL.Fr → Mem → Prop, (∀ (x0 x1 x2 x3 x4 x5 x6 x7 x8 x9 x10 x11 x12 x13 : Sl), nof x0 = true → nof x1 = true → nof x2 = true → nof x3 = true → nof x4 = true → nof x5 = true → nof x6 = true → nof x7 = true → nof x8 = true → nof x9 = true → nof x10 = true → nof x11 = true → nof x12 = true → nof x13 = true → N ((((((((((((((r0.set i0 x0).set i1 x1).set i2 x2).set i3 x3).set i4 x4).set i5 x5).set i6 x6).set i7 x7).set i8 x8).set i9 x9).set i10 x10).set i11 x11).set i12 x12).set i13 x13) M0) → gt d ((((((((((((((r0.set i0 x0).set i1 x1).set i2 x2).set i3 x3).set i4 x4).set i5 x5).set i6 x6).set i7 x7).set i8 x8).set i9 x9).set i10 x10).set i11 x11).set i12 x12).set i13 x13) M0 fun r' M' => gb { D' with nx := N, ct := N, bk := D'.nx } r' M')
    (e : r0 = ((((((((((((((r0.set i0 z0).set i1 z1).set i2 z2).set i3 z3).set i4 z4).set i5 z5).set i6 z6).set i7 z7).set i8 z8).set i9 z9).set i10 z10).set i11 z11).set i12 z12).set i13 z13) := by rfl) (n0 : nof z0 = true := by first | rfl | assumption) (n1 : nof z1 = true := by first | rfl | assumption) (n2 : nof z2 = true := by first | rfl | assumption) (n3 : nof z3 = true := by first | rfl | assumption) (n4 : nof z4 = true := by first | rfl | assumption) (n5 : nof z5 = true := by first | rfl | assumption) (n6 : nof z6 = true := by first | rfl | assumption) (n7 : nof z7 = true := by first | rfl | assumption) (n8 : nof z8 = true := by first | rfl | assumption) (n9 : nof z9 = true := by first | rfl | assumption) (n10 : nof z10 = true := by first | rfl | assumption) (n11 : nof z11 = true := by first | rfl | assumption) (n12 : nof z12 = true := by first | rfl | assumption) (n13 : nof z13 = true := by first | rfl | assumption) : loopD gt gb ds D' r0 M0 := by
  have h : ∀ es : List D, (∀ d ∈ es, d ∈ ds) → ∀ (x0 x1 x2 x3 x4 x5 x6 x7 x8 x9 x10 x11 x12 x13 : Sl), nof x0 = true → nof x1 = true → nof x2 = true → nof x3 = true → nof x4 = true → nof x5 = true → nof x6 = true → nof x7 = true → nof x8 = true → nof x9 = true → nof x10 = true → nof x11 = true → nof x12 = true → nof x13 = true → loopD gt gb es D' ((((((((((((((r0.set i0 x0).set i1 x1).set i2 x2).set i3 x3).set i4 x4).set i5 x5).set i6 x6).set i7 x7).set i8 x8).set i9 x9).set i10 x10).set i11 x11).set i12 x12).set i13 x13) M0 := by
    intro es
    induction es with
    | nil => exact fun _ => h0
    | cons d es ih => exact fun hs x0 x1 x2 x3 x4 x5 x6 x7 x8 x9 x10 x11 x12 x13 nx0 nx1 nx2 nx3 nx4 nx5 nx6 nx7 nx8 nx9 nx10 nx11 nx12 nx13 => h1 d (hs d (List.mem_cons_self ..)) x0 x1 x2 x3 x4 x5 x6 x7 x8 x9 x10 x11 x12 x13 nx0 nx1 nx2 nx3 nx4 nx5 nx6 nx7 nx8 nx9 nx10 nx11 nx12 nx13 _ (ih fun x hx => hs x (List.mem_cons_of_mem _ hx))
  have q := h ds (fun _ h => h) z0 z1 z2 z3 z4 z5 z6 z7 z8 z9 z10 z11 z12 z13 n0 n1 n2 n3 n4 n5 n6 n7 n8 n9 n10 n11 n12 n13
  rw [← e] at q
  exact q
theorem loop_k15 {ds : List D} (i0 i1 i2 i3 i4 i5 i6 i7 i8 i9 i10 i11 i12 i13 i14 : Nat) {z0 z1 z2 z3 z4 z5 z6 z7 z8 z9 z10 z11 z12 z13 z14 : Sl}
    (h0 : ∀ (x0 x1 x2 x3 x4 x5 x6 x7 x8 x9 x10 x11 x12 x13 x14 : Sl), nof x0 = true → nof x1 = true → nof x2 = true → nof x3 = true → nof x4 = true → nof x5 = true → nof x6 = true → nof x7 = true → nof x8 = true → nof x9 = true → nof x10 = true → nof x11 = true → nof x12 = true → nof x13 = true → nof x14 = true → D'.nx (((((((((((((((r0.set i0 x0).set i1 x1).set i2 x2).set i3 x3).set i4 x4).set i5 x5).set i6 x6).set i7 x7).set i8 x8).set i9 x9).set i10 x10).set i11 x11).set i12 x12).set i13 x13).set i14 x14) M0)
    (h1 : ∀ d ∈ ds, ∀ (x0 x1 x2 x3 x4 x5 x6 x7 x8 x9 x10 x11 x12 x13 x14 : Sl), nof x0 = true → nof x1 = true → nof x2 = true → nof x3 = true → nof x4 = true → nof x5 = true → nof x6 = true → nof x7 = true → nof x8 = true → nof x9 = true → nof x10 = true → nof x11 = true → nof x12 = true → nof x13 = true → nof x14 = true → ∀ N : DL.Fr → Mem → Prop, (∀ (x0 x1 x2 x3 x4 x5 x6 x7 x8 x9 x10 x11 x12 x13 x14 : Sl), nof x0 = true → nof x1 = true → nof x2 = true → nof x3 = true → nof x4 = true → nof x5 = true → nof x6 = true → nof x7 = true → nof x8 = true → nof x9 = true → nof x10 = true → nof x11 = true → nof x12 = true → nof x13 = true → nof x14 = true → N (((((((((((((((r0.set i0 x0).set i1 x1).set i2 x2).set i3 x3).set i4 x4).set i5 x5).set i6 x6).set i7 x7).set i8 x8).set i9 x9).set i10 x10).set i11 x11).set i12 x12).set i13 x13).set i14 x14) M0) → gt d (((((((((((((((r0.set i0 x0).set i1 x1).set i2 x2).set i3 x3).set i4 x4).set i5 x5).set i6 x6).set i7 x7).set i8 x8).set i9 x9).set i10 x10).set i11 x11).set i12 x12).set i13 x13).set i14 x14) M0 fun r' M' => gb { D' with nx := N, ct := N, bk := D'.nx } r' M')
    (e : r0 = (((((((((((((((r0.set i0 z0).set i1 z1).set i2 z2).set i3 z3).set i4 z4).set i5 z5).set i6 z6).set i7 z7).set i8 z8).set i9 z9).set i10 z10).set i11 z11).set i12 z12).set i13 z13).set i14 z14) := by rfl) (n0 : nof z0 = true := by first | rfl | assumption) (n1 : nof z1 = true := by first | rfl | assumption) (n2 : nof z2 = true := by first | rfl | assumption) (n3 : nof z3 = true := by first | rfl | assumption) (n4 : nof z4 = true := by first | rfl | assumption) (n5 : nof z5 = true := by first | rfl | assumption) (n6 : nof z6 = true := by first | rfl | assumption) (n7 : nof z7 = true := by first | rfl | assumption) (n8 : nof z8 = true := by first | rfl | assumption) (n9 : nof z9 = true := by first | rfl | assumption) (n10 : nof z10 = true := by first | rfl | assumption) (n11 : nof z11 = true := by first | rfl | assumption) (n12 : nof z12 = true := by first | rfl | assumption) (n13 : nof z13 = true := by first | rfl | assumption) (n14 : nof z14 = true := by first | rfl | assumption) : loopD gt gb ds D' r0 M0 := by
  have h : ∀ es : List D, (∀ d ∈ es, d ∈ ds) → ∀ (x0 x1 x2 x3 x4 x5 x6 x7 x8 x9 x10 x11 x12 x13 x14 : Sl), nof x0 = true → nof x1 = true → nof x2 = true → nof x3 = true → nof x4 = true → nof x5 = true → nof x6 = true → nof x7 = true → nof x8 = true → nof x9 = true → nof x10 = true → nof x11 = true → nof x12 = true → nof x13 = true → nof x14 = true → loopD gt gb es D' (((((((((((((((r0.set i0 x0).set i1 x1).set i2 x2).set i3 x3).set i4 x4).set i5 x5).set i6 x6).set i7 x7).set i8 x8).set i9 x9).set i10 x10).set i11 x11).set i12 x12).set i13 x13).set i14 x14) M0 := by
    intro es
    induction es with
    | nil => exact fun _ => h0
    | cons d es ih => exact fun hs x0 x1 x2 x3 x4 x5 x6 x7 x8 x9 x10 x11 x12 x13 x14 nx0 nx1 nx2 nx3 nx4 nx5 nx6 nx7 nx8 nx9 nx10 nx11 nx12 nx13 nx14 => h1 d (hs d (List.mem_cons_self ..)) x0 x1 x2 x3 x4 x5 x6 x7 x8 x9 x10 x11 x12 x13 x14 nx0 nx1 nx2 nx3 nx4 nx5 nx6 nx7 nx8 nx9 nx10 nx11 nx12 nx13 nx14 _ (ih fun x hx => hs x (List.mem_cons_of_mem _ hx))
  have q := h ds (fun _ h => h) z0 z1 z2 z3 z4 z5 z6 z7 z8 z9 z10 z11 z12 z13 z14 n0 n1 n2 n3 n4 n5 n6 n7 n8 n9 n10 n11 n12 n13 n14
  rw [← e] at q
  exact q
theorem loop_k16 {ds : List D} (i0 i1 i2 i3 i4 i5 i6 i7 i8 i9 i10 i11 i12 i13 i14 i15 : Nat) {z0 z1 z2 z3 z4 z5 z6 z7 z8 z9 z10 z11 z12 z13 z14 z15 : Sl}
    (h0 : ∀ (x0 x1 x2 x3 x4 x5 x6 x7 x8 x9 x10 x11 x12 x13 x14 x15 : Sl), nof x0 = true → nof x1 = true → nof x2 = true → nof x3 = true → nof x4 = true → nof x5 = true → nof x6 = true → nof x7 = true → nof x8 = true → nof x9 = true → nof x10 = true → nof x11 = true → nof x12 = true → nof x13 = true → nof x14 = true → nof x15 = true → D'.nx ((((((((((((((((r0.set i0 x0).set i1 x1).set i2 x2).set i3 x3).set i4 x4).set i5 x5).set i6 x6).set i7 x7).set i8 x8).set i9 x9).set i10 x10).set i11 x11).set i12 x12).set i13 x13).set i14 x14).set i15 x15) M0)
    (h1 : ∀ d ∈ ds, ∀ (x0 x1 x2 x3 x4 x5 x6 x7 x8 x9 x10 x11 x12 x13 x14 x15 : Sl), nof x0 = true → nof x1 = true → nof x2 = true → nof x3 = true → nof x4 = true → nof x5 = true → nof x6 = true → nof x7 = true → nof x8 = true → nof x9 = true → nof x10 = true → nof x11 = true → nof x12 = true → nof x13 = true → nof x14 = true → nof x15 = true → ∀ N : DL.Fr → Mem → Prop, (∀ (x0 x1 x2 x3 x4 x5 x6 x7 x8 x9 x10 x11 x12 x13 x14 x15 : Sl), nof x0 = true → nof x1 = true → nof x2 = true → nof x3 = true → nof x4 = true → nof x5 = true → nof x6 = true → nof x7 = true → nof x8 = true → nof x9 = true → nof x10 = true → nof x11 = true → nof x12 = true → nof x13 = true → nof x14 = true → nof x15 = true → N ((((((((((((((((r0.set i0 x0).set i1 x1).set i2 x2).set i3 x3).set i4 x4).set i5 x5).set i6 x6).set i7 x7).set i8 x8).set i9 x9).set i10 x10).set i11 x11).set i12 x12).set i13 x13).set i14 x14).set i15 x15) M0) → gt d ((((((((((((((((r0.set i0 x0).set i1 x1).set i2 x2).set i3 x3).set i4 x4).set i5 x5).set i6 x6).set i7 x7).set i8 x8).set i9 x9).set i10 x10).set i11 x11).set i12 x12).set i13 x13).set i14 x14).set i15 x15) M0 fun r' M' => gb { D' with nx := N, ct := N, bk := D'.nx } r' M')
    (e : r0 = ((((((((((((((((r0.set i0 z0).set i1 z1).set i2 z2).set i3 z3).set i4 z4).set i5 z5).set i6 z6).set i7 z7).set i8 z8).set i9 z9).set i10 z10).set i11 z11).set i12 z12).set i13 z13).set i14 z14).set i15 z15) := by rfl) (n0 : nof z0 = true := by first | rfl | assumption) (n1 : nof z1 = true := by first | rfl | assumption) (n2 : nof z2 = true := by first | rfl | assumption) (n3 : nof z3 = true := by first | rfl | assumption) (n4 : nof z4 = true := by first | rfl | assumption) (n5 : nof z5 = true := by first | rfl | assumption) (n6 : nof z6 = true := by first | rfl | assumption) (n7 : nof z7 = true := by first | rfl | assumption) (n8 : nof z8 = true := by first | rfl | assumption) (n9 : nof z9 = true := by first | rfl | assumption) (n10 : nof z10 = true := by first | rfl | assumption) (n11 : nof z11 = true := by first | rfl | assumption) (n12 : nof z12 = true := by first | rfl | assumption) (n13 : nof z13 = true := by first | rfl | assumption) (n14 : nof z14 = true := by first | rfl | assumption) (n15 : nof z15 = true := by first | rfl | assumption) : loopD gt gb ds D' r0 M0 := by
  have h : ∀ es : List D, (∀ d ∈ es, d ∈ ds) → ∀ (x0 x1 x2 x3 x4 x5 x6 x7 x8 x9 x10 x11 x12 x13 x14 x15 : Sl), nof x0 = true → nof x1 = true → nof x2 = true → nof x3 = true → nof x4 = true → nof x5 = true → nof x6 = true → nof x7 = true → nof x8 = true → nof x9 = true → nof x10 = true → nof x11 = true → nof x12 = true → nof x13 = true → nof x14 = true → nof x15 = true → loopD gt gb es D' ((((((((((((((((r0.set i0 x0).set i1 x1).set i2 x2).set i3 x3).set i4 x4).set i5 x5).set i6 x6).set i7 x7).set i8 x8).set i9 x9).set i10 x10).set i11 x11).set i12 x12).set i13 x13).set i14 x14).set i15 x15) M0 := by
    intro es
    induction es with
    | nil => exact fun _ => h0
    | cons d es ih => exact fun hs x0 x1 x2 x3 x4 x5 x6 x7 x8 x9 x10 x11 x12 x13 x14 x15 nx0 nx1 nx2 nx3 nx4 nx5 nx6 nx7 nx8 nx9 nx10 nx11 nx12 nx13 nx14 nx15 => h1 d (hs d (List.mem_cons_self ..)) x0 x1 x2 x3 x4 x5 x6 x7 x8 x9 x10 x11 x12 x13 x14 x15 nx0 nx1 nx2 nx3 nx4 nx5 nx6 nx7 nx8 nx9 nx10 nx11 nx12 nx13 nx14 nx15 _ (ih fun x hx => hs x (List.mem_cons_of_mem _ hx))
  have q := h ds (fun _ h => h) z0 z1 z2 z3 z4 z5 z6 z7 z8 z9 z10 z11 z12 z13 z14 z15 n0 n1 n2 n3 n4 n5 n6 n7 n8 n9 n10 n11 n12 n13 n14 n15
  rw [← e] at q
  exact q
theorem loop_k17 {ds : List D} (i0 i1 i2 i3 i4 i5 i6 i7 i8 i9 i10 i11 i12 i13 i14 i15 i16 : Nat) {z0 z1 z2 z3 z4 z5 z6 z7 z8 z9 z10 z11 z12 z13 z14 z15 z16 : Sl}
    (h0 : ∀ (x0 x1 x2 x3 x4 x5 x6 x7 x8 x9 x10 x11 x12 x13 x14 x15 x16 : Sl), nof x0 = true → nof x1 = true → nof x2 = true → nof x3 = true → nof x4 = true → nof x5 = true → nof x6 = true → nof x7 = true → nof x8 = true → nof x9 = true → nof x10 = true → nof x11 = true → nof x12 = true → nof x13 = true → nof x14 = true → nof x15 = true → nof x16 = true → D'.nx (((((((((((((((((r0.set i0 x0).set i1 x1).set i2 x2).set i3 x3).set i4 x4).set i5 x5).set i6 x6).set i7 x7).set i8 x8).set i9 x9).set i10 x10).set i11 x11).set i12 x12).set i13 x13).set i14 x14).set i15 x15).set i16 x16) M0)
    (h1 : ∀ d ∈ ds, ∀ (x0 x1 x2 x3 x4 x5 x6 x7 x8 x9 x10 x11 x12 x13 x14 x15 x16 : Sl), nof x0 = true → nof x1 = true → nof x2 = true → nof x3 = true → nof x4 = true → nof x5 = true → nof x6 = true → nof x7 = true → nof x8 = true → nof x9 = true → nof x10 = true → nof x11 = true → nof x12 = true → nof x13 = true → nof x14 = true → nof x15 = true → nof x16 = true → ∀ N : DL.Fr → Mem → Prop, (∀ (x0 x1 x2 x3 x4 x5 x6 x7 x8 x9 x10 x11 x12 x13 x14 x15 x16 : Sl), nof x0 = true → nof x1 = true → nof x2 = true → nof x3 = true → nof x4 = true → nof x5 = true → nof x6 = true → nof x7 = true → nof x8 = true → nof x9 = true → nof x10 = true → nof x11 = true → nof x12 = true → nof x13 = true → nof x14 = true → nof x15 = true → nof x16 = true → N (((((((((((((((((r0.set i0 x0).set i1 x1).set i2 x2).set i3 x3).set i4 x4).set i5 x5).set i6 x6).set i7 x7).set i8 x8).set i9 x9).set i10 x10).set i11 x11).set i12 x12).set i13 x13).set i14 x14).set i15 x15).set i16 x16) M0) → gt d (((((((((((((((((r0.set i0 x0).set i1 x1).set i2 x2).set i3 x3).set i4 x4).set i5 x5).set i6 x6).set i7 x7).set i8 x8).set i9 x9).set i10 x10).set i11 x11).set i12 x12).set i13 x13).set i14 x14).set i15 x15).set i16 x16) M0 fun r' M' => gb { D' with nx := N, ct := N, bk := D'.nx } r' M')
    (e : r0 = (((((((((((((((((r0.set i0 z0).set i1 z1).set i2 z2).set i3 z3).set i4 z4).set i5 z5).set i6 z6).set i7 z7).set i8 z8).set i9 z9).set i10 z10).set i11 z11).set i12 z12).set i13 z13).set i14 z14).set i15 z15).set i16 z16) := by rfl) (n0 : nof z0 = true := by first | rfl | assumption) (n1 : nof z1 = true := by first | rfl | assumption) (n2 : nof z2 = true := by first | rfl | assumption) (n3 : nof z3 = true := by first | rfl | assumption) (n4 : nof z4 = true := by first | rfl | assumption) (n5 : nof z5 = true := by first | rfl | assumption) (n6 : nof z6 = true := by first | rfl | assumption) (n7 : nof z7 = true := by first | rfl | assumption) (n8 : nof z8 = true := by first | rfl | assumption) (n9 : nof z9 = true := by first | rfl | assumption) (n10 : nof z10 = true := by first | rfl | assumption) (n11 : nof z11 = true := by first | rfl | assumption) (n12 : nof z12 = true := by first | rfl | assumption) (n13 : nof z13 = true := by first | rfl | assumption) (n14 : nof z14 = true := by first | rfl | assumption) (n15 : nof z15 = true := by first | rfl | assumption) (n16 : nof z16 = true := by first | rfl | assumption) : loopD gt gb ds D' r0 M0 := by
  have h : ∀ es : List D, (∀ d ∈ es, d ∈ ds) → ∀ (x0 x1 x2 x3 x4 x5 x6 x7 x8 x9 x10 x11 x12 x13 x14 x15 x16 : Sl), nof x0 = true → nof x1 = true → nof x2 = true → nof x3 = true → nof x4 = true → nof x5 = true → nof x6 = true → nof x7 = true → nof x8 = true → nof x9 = true → nof x10 = true → nof x11 = true → nof x12 = true → nof x13 = true → nof x14 = true → nof x15 = true → nof x16 = true → loopD gt gb es D' (((((((((((((((((r0.set i0 x0).set i1 x1).set i2 x2).set i3 x3).set i4 x4).set i5 x5).set i6 x6).set i7 x7).set i8 x8).set i9 x9).set i10 x10).set i11 x11).set i12 x12).set i13 x13).set i14 x14).set i15 x15).set i16 x16) M0 := by
    intro es
    induction es with
    | nil => exact fun _ => h0
    | cons d es ih => exact fun hs x0 x1 x2 x3 x4 x5 x6 x7 x8 x9 x10 x11 x12 x13 x14 x15 x16 nx0 nx1 nx2 nx3 nx4 nx5 nx6 nx7 nx8 nx9 nx10 nx11 nx12 nx13 nx14 nx15 nx16 => h1 d (hs d (List.mem_cons_self ..)) x0 x1 x2 x3 x4 x5 x6 x7 x8 x9 x10 x11 x12 x13 x14 x15 x16 nx0 nx1 nx2 nx3 nx4 nx5 nx6 nx7 nx8 nx9 nx10 nx11 nx12 nx13 nx14 nx15 nx16 _ (ih fun x hx => hs x (List.mem_cons_of_mem _ hx))
  have q := h ds (fun _ h => h) z0 z1 z2 z3 z4 z5 z6 z7 z8 z9 z10 z11 z12 z13 z14 z15 z16 n0 n1 n2 n3 n4 n5 n6 n7 n8 n9 n10 n11 n12 n13 n14 n15 n16
  rw [← e] at q
  exact q
theorem loop_k18 {ds : List D} (i0 i1 i2 i3 i4 i5 i6 i7 i8 i9 i10 i11 i12 i13 i14 i15 i16 i17 : Nat) {z0 z1 z2 z3 z4 z5 z6 z7 z8 z9 z10 z11 z12 z13 z14 z15 z16 z17 : Sl}
    (h0 : ∀ (x0 x1 x2 x3 x4 x5 x6 x7 x8 x9 x10 x11 x12 x13 x14 x15 x16 x17 : Sl), nof x0 = true → nof x1 = true → nof x2 = true → nof x3 = true → nof x4 = true → nof x5 = true → nof x6 = true → nof x7 = true → nof x8 = true → nof x9 = true → nof x10 = true → nof x11 = true → nof x12 = true → nof x13 = true → nof x14 = true → nof x15 = true → nof x16 = true → nof x17 = true → D'.nx ((((((((((((((((((r0.set i0 x0).set i1 x1).set i2 x2).set i3 x3).set i4 x4).set i5 x5).set i6 x6).set i7 x7).set i8 x8).set i9 x9).set i10 x10).set i11 x11).set i12 x12).set i13 x13).set i14 x14).set i15 x15).set i16 x16).set i17 x17) M0)
    (h1 : ∀ d ∈ ds, ∀ (x0 x1 x2 x3 x4 x5 x6 x7 x8 x9 x10 x11 x12 x13 x14 x15 x16 x17 : Sl), nof x0 = true → nof x1 = true → nof x2 = true → nof x3 = true → nof x4 = true → nof x5 = true → nof x6 = true → nof x7 = true → nof x8 = true → nof x9 = true → nof x10 = true → nof x11 = true → nof x12 = true → nof x13 = true → nof x14 = true → nof x15 = true → nof x16 = true → nof x17 = true → ∀ N : DL.Fr → Mem → Prop, (∀ (x0 x1 x2 x3 x4 x5 x6 x7 x8 x9 x10 x11 x12 x13 x14 x15 x16 x17 : Sl), nof x0 = true → nof x1 = true → nof x2 = true → nof x3 = true → nof x4 = true → nof x5 = true → nof x6 = true → nof x7 = true → nof x8 = true → nof x9 = true → nof x10 = true → nof x11 = true → nof x12 = true → nof x13 = true → nof x14 = true → nof x15 = true → nof x16 = true → nof x17 = true → N ((((((((((((((((((r0.set i0 x0).set i1 x1).set i2 x2).set i3 x3).set i4 x4).set i5 x5).set i6 x6).set i7 x7).set i8 x8).set i9 x9).set i10 x10).set i11 x11).set i12 x12).set i13 x13).set i14 x14).set i15 x15).set i16 x16).set i17 x17) M0) → gt d ((((((((((((((((((r0.set i0 x0).set i1 x1).set i2 x2).set i3 x3).set i4 x4).set i5 x5).set i6 x6).set i7 x7).set i8 x8).set i9 x9).set i10 x10).set i11 x11).set i12 x12).set i13 x13).set i14 x14).set i15 x15).set i16 x16).set i17 x17) M0 fun r' M' => gb { D' with nx := N, ct := N, bk := D'.nx } r' M')
    (e : r0 = ((((((((((((((((((r0.set i0 z0).set i1 z1).set i2 z2).set i3 z3).set i4 z4).set i5 z5).set i6 z6).set i7 z7).set i8 z8).set i9 z9).set i10 z10).set i11 z11).set i12 z12).set i13 z13).set i14 z14).set i15 z15).set i16 z16).set i17 z17) := by rfl) (n0 : nof z0 = true := by first | rfl | assumption) (n1 : nof z1 = true := by first | rfl | assumption) (n2 : nof z2 = true := by first | rfl | assumption) (n3 : nof z3 = true := by first | rfl | assumption) (n4 : nof z4 = true := by first | rfl | assumption) (n5 : nof z5 = true := by first | rfl | assumption) (n6 : nof z6 = true := by first | rfl | assumption) (n7 : nof z7 = true := by first | rfl | assumption) (n8 : nof z8 = true := by first | rfl | assumption) (n9 : nof z9 = true := by first | rfl | assumption) (n10 : nof z10 = true := by first | rfl | assumption) (n11 : nof z11 = true := by first | rfl | assumption) (n12 : nof z12 = true := by first | rfl | assumption) (n13 : nof z13 = true := by first | rfl | assumption) (n14 : nof z14 = true := by first | rfl | assumption) (n15 : nof z15 = true := by first | rfl | assumption) (n16 : nof z16 = true := by first | rfl | assumption) (n17 : nof z17 = true := by first | rfl | assumption) : loopD gt gb ds D' r0 M0 := by
  have h : ∀ es : List D, (∀ d ∈ es, d ∈ ds) → ∀ (x0 x1 x2 x3 x4 x5 x6 x7 x8 x9 x10 x11 x12 x13 x14 x15 x16 x17 : Sl), nof x0 = true → nof x1 = true → nof x2 = true → nof x3 = true → nof x4 = true → nof x5 = true → nof x6 = true → nof x7 = true → nof x8 = true → nof x9 = true → nof x10 = true → nof x11 = true → nof x12 = true → nof x13 = true → nof x14 = true → nof x15 = true → nof x16 = true → nof x17 = true → loopD gt gb es D' ((((((((((((((((((r0.set i0 x0).set i1 x1).set i2 x2).set i3 x3).set i4 x4).set i5 x5).set i6 x6).set i7 x7).set i8 x8).set i9 x9).set i10 x10).set i11 x11).set i12 x12).set i13 x13).set i14 x14).set i15 x15).set i16 x16).set i17 x17) M0 := by
    intro es
    induction es with
    | nil => exact fun _ => h0
    | cons d es ih => exact fun hs x0 x1 x2 x3 x4 x5 x6 x7 x8 x9 x10 x11 x12 x13 x14 x15 x16 x17 nx0 nx1 nx2 nx3 nx4 nx5 nx6 nx7 nx8 nx9 nx10 nx11 nx12 nx13 nx14 nx15 nx16 nx17 => h1 d (hs d (List.mem_cons_self ..)) x0 x1 x2 x3 x4 x5 x6 x7 x8 x9 x10 x11 x12 x13 x14 x15 x16 x17 nx0 nx1 nx2 nx3 nx4 nx5 nx6 nx7 nx8 nx9 nx10 nx11 nx12 nx13 nx14 nx15 nx16 nx17 _ (ih fun x hx => hs x (List.mem_cons_of_mem _ hx))
  have q := h ds (fun _ h => h) z0 z1 z2 z3 z4 z5 z6 z7 z8 z9 z10 z11 z12 z13 z14 z15 z16 z17 n0 n1 n2 n3 n4 n5 n6 n7 n8 n9 n10 n11 n12 n13 n14 n15 n16 n17
  rw [← e] at q
  exact q
end
end DL

set_option Elab.async false
set_option linter.all false
set_option maxRecDepth 100000
/-! DL24: instances in memory: fields, lists in memory by their methods. -/
namespace DL
open PySem PySem.Spec PySem.W PyProof.Rows L2

/-! ### fields -/
def putFl (f : PySem.Str) (v : Fl) : List (PySem.Str × Fl) → List (PySem.Str × Fl)
  | [] => [(f, v)]
  | (g, x) :: r => if g = f then (g, v) :: r else (g, x) :: putFl f v r
section
variable {K : PySem.W.Frag} {A : Addr → Prop} {H : Hp} {O : Own} {a : Addr}
theorem FlsOk.look {f : PySem.Str} {d : D} : ∀ {vs : List (PySem.Str × V)} {fs : List (PySem.Str × Fl)}, FlsOk K A H O a vs fs → fs.lookup f = some (.v d) → ∃ v, vs.lookup f = some v ∧ Is K A H v d
  | _, _, .nil, h => by cases h
  | _, _, @FlsOk.v _ _ _ _ _ g v' d' vs' fs' i t, h => by
    cases hb : (f == g) with
    | true =>
      simp only [List.lookup, hb] at h ⊢
      cases h
      exact ⟨_, rfl, i⟩
    | false =>
      simp only [List.lookup, hb] at h ⊢
      exact FlsOk.look t h
  | _, _, @FlsOk.o _ _ _ _ _ g l m vs' fs' oo i t, h => by
    cases hb : (f == g) with
    | true =>
      simp only [List.lookup, hb] at h
      cases h
    | false =>
      simp only [List.lookup, hb] at h ⊢
      exact FlsOk.look t h
theorem FlsOk.no {f : PySem.Str} : ∀ {vs : List (PySem.Str × V)} {fs : List (PySem.Str × Fl)}, FlsOk K A H O a vs fs → fs.lookup f = none → vs.lookup f = none
  | _, _, .nil, h => rfl
  | _, _, @FlsOk.v _ _ _ _ _ g v' d' vs' fs' i t, h => by
    cases hb : (f == g) with
    | true =>
      simp only [List.lookup, hb] at h
      cases h
    | false =>
      simp only [List.lookup, hb] at h ⊢
      exact FlsOk.no t h
  | _, _, @FlsOk.o _ _ _ _ _ g l m vs' fs' oo i t, h => by
    cases hb : (f == g) with
    | true =>
      simp only [List.lookup, hb] at h
      cases h
    | false =>
      simp only [List.lookup, hb] at h ⊢
      exact FlsOk.no t h
theorem FlsOk.put {f : PySem.Str} {v : V} {d : D} (q : Is K A H v d) : ∀ {vs : List (PySem.Str × V)} {fs : List (PySem.Str × Fl)}, FlsOk K A H O a vs fs → FlsOk K A H O a (putF f v vs) (putFl f (.v d) fs)
  | _, _, .nil => .v q .nil
  | _, _, @FlsOk.v _ _ _ _ _ g v' d' vs' fs' i t => by
    show FlsOk K A H O a (if g = f then (g, v) :: vs' else (g, v') :: putF f v vs') (if g = f then (g, .v d) :: fs' else (g, .v d') :: putFl f (.v d) fs')
    split
    · exact .v q t
    · exact .v i (FlsOk.put q t)
  | _, _, @FlsOk.o _ _ _ _ _ g l m vs' fs' oo i t => by
    show FlsOk K A H O a (if g = f then (g, v) :: vs' else (g, .ref l) :: putF f v vs') (if g = f then (g, .v d) :: fs' else (g, .o m) :: putFl f (.v d) fs')
    split
    · exact .v q t
    · exact .o oo i (FlsOk.put q t)
theorem FlsOk.len : ∀ {vs : List (PySem.Str × V)} {fs : List (PySem.Str × Fl)}, FlsOk K A H O a vs fs → vs.length = fs.length
  | _, _, .nil => rfl
  | _, _, .v _ t => congrArg (· + 1) (FlsOk.len t)
  | _, _, .o _ _ t => congrArg (· + 1) (FlsOk.len t)
end

section
variable {X : Cx} {w p w1 w2 : Bool} {o e a b : Expr} {es : List Expr} {g ga gb ge go : GE} {gs : GA} {B : Addr → Prop} {E : En} {σ : L2.St} {H H' : Hp} {r : DL.Fr} {M M' : Mem} {O O' : Own} {pos pos' apos cpos : Pos} {l : Addr} {f : PySem.Str}
/-- e.f -/
def fldK (K : PySem.W.Frag) (f : PySem.Str) (d : D) (M : Mem) (Q : D → Mem → Prop) : Prop := match d with
  | .ref a => match M a with
    | some (.ins C fs) => (Cls K C ∧ NoAttr K C f) ∧ (match fs.lookup f with
      | some (.v z) => Q z M
      | _ => False)
    | _ => False
  | _ => False
theorem fldK_ref {K : PySem.W.Frag} {a : Addr} {Q : D → Mem → Prop} : fldK K f (.ref a) M Q = match M a with
    | some (.ins C fs) => (Cls K C ∧ NoAttr K C f) ∧ (match fs.lookup f with
      | some (.v z) => Q z M
      | _ => False)
    | _ => False := rfl
def gFld (K : PySem.W.Frag) (f : PySem.Str) (ga : GE) : GE := fun r M Q => ga r M fun d M1 => fldK K f d M1 Q
theorem fldK_mono {K : PySem.W.Frag} {d : D} {Q Q' : D → Mem → Prop} (h : ∀ d M', Q d M' → Q' d M') (q : fldK K f d M Q) : fldK K f d M Q' := by
  unfold fldK at q ⊢
  split at q
  · split at q
    · refine ⟨q.1, ?_⟩
      have q2 := q.2
      split at q2
      · exact h _ _ q2
      · exact q2.elim
    · exact q.elim
  · exact q.elim
theorem de_fld (ha : DE w p X e ga) (hb : attributeBase e f X.env (eval e X.env) = eval e X.env := by rfl) : DE true p X (.Attribute e f pos) (gFld X.K f ga) := by
  refine ⟨peI (pe_fld ha.run hb) fun σ H Q ⟨B, E, r, M, O, R, q⟩ => ?_, fun r M Q Q' h q => ha.mono r M _ _ (fun d M1 q1 => fldK_mono h q1) q⟩
  refine ha.on R q fun d M1 v H1 O1 k1 R1 l1 i1 => ?_
  unfold fldK at k1
  split at k1
  · rename_i a
    have := is1_ref i1.one
    subst this
    split at k1
    · rename_i C fs em
      obtain ⟨_, _, dx, vs, e1, e2⟩ := R1.m.mem _ _ em
      obtain ⟨⟨c1, c2⟩, k2⟩ := k1
      split at k2
      · rename_i z ez
        obtain ⟨u, hu, iu⟩ := e2.look ez
        exact ⟨a, C, dx, vs, u, rfl, e1, c1, c2, hu, k2 u H1 O1 R1 l1 iu⟩
      · exact k2.elim
    · exact k1.elim
  · exact k1.elim
/-- o.f = e -/
def putFK (K : PySem.W.Frag) (f : PySem.Str) (z d : D) (M : Mem) (Q : Mem → Prop) : Prop := match d with
  | .ref a => match M a with
    | some (.ins C fs) => (Cls K C ∧ NoAttr K C f) ∧ fs.length < 1000 ∧ Q (mup M a (.ins C (putFl f (.v z) fs)))
    | _ => False
  | _ => False
theorem putFK_ref {K : PySem.W.Frag} {a : Addr} {z : D} {Q : Mem → Prop} : putFK K f z (.ref a) M Q = match M a with
    | some (.ins C fs) => (Cls K C ∧ NoAttr K C f) ∧ fs.length < 1000 ∧ Q (mup M a (.ins C (putFl f (.v z) fs)))
    | _ => False := rfl
def gPutF (K : PySem.W.Frag) (f : PySem.Str) (ga ge : GE) : GS := fun D r M => ge r M fun z M1 => ga r M1 fun d M2 => putFK K f z d M2 fun M3 => D.nx r M3
theorem putFK_mono {K : PySem.W.Frag} {z d : D} {Q Q' : Mem → Prop} (h : ∀ M', Q M' → Q' M') (q : putFK K f z d M Q) : putFK K f z d M Q' := by
  unfold putFK at q ⊢
  split at q
  · split at q
    · exact ⟨q.1, q.2.1, h _ q.2.2⟩
    · exact q.elim
  · exact q.elim
theorem step_upd {u : HO} (hl : Av B M O l) : Step (Av B M O) H (Av B M O) (upd H l u) := fun b o e nb => ⟨by rw [upd_ne fun z => nb (by rw [z]; exact hl)]; exact e, nb⟩
theorem ds_fld (ha : DE w1 p X o ga) (he : DE true p X e ge) (hs : swapsWith e (some (.Attribute o f pos')) pos.line X.env = pure false := by rfl) : DS X (.Assign [.Attribute o f pos'] e pos) (gPutF X.K f ga ge) := by
  refine ⟨psI (ps_fld ha.run he.run hs) fun D σ H ⟨B, E, r, M, O, R, q⟩ => ?_, fun D D' r M l q => he.mono _ _ _ _ (fun z M1 q1 => ha.mono _ _ _ _ (fun d M2 q2 => putFK_mono (fun _ q => l.nx _ _ q) q2) q1) q⟩
  refine he.on R q fun z M1 y H1 O1 k1 R1 l1 i1 => ?_
  refine ha.on R1 k1 fun d M2 v H2 O2 k2 R2 l2 i2 => ?_
  have i1' : Is X.K (Av B M2 O2) H2 y z := Is.step l2.avs i1
  unfold putFK at k2
  split at k2
  · rename_i a
    have := is1_ref i2.one
    subst this
    split at k2
    · rename_i C fs em
      obtain ⟨_, nO, dx, vs, e1, e2⟩ := R2.m.mem _ _ em
      obtain ⟨⟨c1, c2⟩, c3, k3⟩ := k2
      have hav : Av B M2 O2 a := .inr (.inl (by rw [em]; simp))
      refine ⟨a, C, dx, vs, rfl, e1, c1, c2, by rw [e2.len]; exact c3, ?_⟩
      refine k3 _ _ O2 (R2.mutM (m' := .ins C (putFl f (.v z) fs)) em ⟨dx, putF f y vs, upd_same, ?_⟩).1
      refine FlsOk.put (i1'.step (step_upd hav)) (e2.stepS (step_upd hav) fun l f q => ⟨q, fun o e => ?_⟩)
      rw [upd_ne (fun z => by subst z; rw [nO] at q; cases q)]
      exact e
    · exact k2.elim
  · exact k2.elim
/-- o.f = [..], list(..): a new list in memory -/
def gPutFM (K : PySem.W.Frag) (f : PySem.Str) (ga : GE) (gf : GF) : GS := fun D r M => gf r M fun m M1 => ∀ l, M1 l = none → ga r (mup M1 l (.om m)) fun d M2 => putFK K f (.ref l) d M2 fun M3 => D.nx r M3
theorem ds_fldM {gf : GF} (ha : DE w1 p X o ga) (he : DF p X e gf) (hs : swapsWith e (some (.Attribute o f pos')) pos.line X.env = pure false := by rfl) : DS X (.Assign [.Attribute o f pos'] e pos) (gPutFM X.K f ga gf) := by
  refine ⟨psI (ps_fld ha.run he.run hs) fun D σ H ⟨B, E, r, M, O, R, q⟩ => ?_, fun D D' r M l q => he.mono _ _ _ _ (fun m M1 q1 a h => ha.mono _ _ _ _ (fun d M2 q2 => putFK_mono (fun _ q => l.nx _ _ q) q2) (q1 a h)) q⟩
  refine he.on R q (Q := fun y H1 => ∃ B E r M O, Rep X B E σ H1 r M O ∧ ga r M (LE w1 p X B E σ r H1 M O fun x H2 => ∃ a C dx fs, x = .ref a ∧ H2 a = some (.ins C dx fs) ∧ Cls X.K C ∧ NoAttr X.K C f ∧ fs.length < 1000 ∧ D.nx σ (upd H2 a (.ins C dx (putF f y fs))))) fun m M1 n H1 O1 k1 N1 l1 i1 => ?_
  have R1 := N1.toMem (m := .om m) i1
  refine ha.on R1 (k1 n N1.mnone) fun d M2 v H2 O2 k2 R2 l2 i2 => ?_
  unfold putFK at k2
  split at k2
  · rename_i a
    have := is1_ref i2.one
    subst this
    split at k2
    · rename_i C fs em
      obtain ⟨_, nO, dx, vs, e1, e2⟩ := R2.m.mem _ _ em
      obtain ⟨⟨c1, c2⟩, c3, k3⟩ := k2
      have hav : Av B M2 O2 a := .inr (.inl (by rw [em]; simp))
      refine ⟨a, C, dx, vs, rfl, e1, c1, c2, by rw [e2.len]; exact c3, ?_⟩
      refine k3 _ _ O2 (R2.mutM (m' := .ins C (putFl f (.v (.ref n)) fs)) em ⟨dx, putF f (.ref n) vs, upd_same, ?_⟩).1
      refine FlsOk.put (Is.ref n) (e2.stepS (step_upd hav) fun l f q => ⟨q, fun o e => ?_⟩)
      rw [upd_ne (fun z => by subst z; rw [nO] at q; cases q)]
      exact e
    · exact k2.elim
  · exact k2.elim

/-! ### lists in memory -/
/-- what stands there, seen as it is now -/
def drfK (d : D) (M : Mem) (Q : D → Mem → Prop) : Prop := match d with
  | .ref l => match M l with
    | some (.om (.lst ds)) => Q (.lst ds) M
    | some (.om (.dic ds)) => Q (.dic ds) M
    | _ => False
  | _ => False
theorem drfK_ref {Q : D → Mem → Prop} : drfK (.ref l) M Q = match M l with
    | some (.om (.lst ds)) => Q (.lst ds) M
    | some (.om (.dic ds)) => Q (.dic ds) M
    | _ => False := rfl
def gDrf (ga : GE) : GE := fun r M Q => ga r M fun d M1 => drfK d M1 Q
theorem de_drf (ha : DE w p X e ga) : DE false p X e (gDrf ga) := by
  refine ⟨peI ha.run fun σ H Q ⟨B, E, r, M, O, R, q⟩ => ?_, fun r M Q Q' h q => ha.mono r M _ _ (fun d M1 q1 => ?_) q⟩
  · refine ha.on R q fun d M1 v H1 O1 k1 R1 l1 i1 => ?_
    unfold drfK at k1
    split at k1
    · rename_i l
      have := is1_ref i1.one
      subst this
      split at k1
      · rename_i ds em
        obtain ⟨_, _, vs, e1, e2⟩ := R1.m.mem _ _ em
        exact k1 _ H1 O1 R1 l1 ⟨l, vs, rfl, e1, e2⟩
      · rename_i ds em
        obtain ⟨_, _, vs, e1, e2⟩ := R1.m.mem _ _ em
        exact k1 _ H1 O1 R1 l1 ⟨l, vs, rfl, .inl e1, e2⟩
      · exact k1.elim
    · exact k1.elim
  · unfold drfK at q1 ⊢
    split at q1
    · split at q1
      · exact h _ _ q1
      · exact h _ _ q1
      · exact q1.elim
    · exact q1.elim
def mlK (d : D) (M : Mem) (k : Addr → List D → Prop) : Prop := match d with
  | .ref l => match M l with
    | some (.om (.lst ds)) => k l ds
    | _ => False
  | _ => False
theorem mlK_ref {k : Addr → List D → Prop} : mlK (.ref l) M k = match M l with
    | some (.om (.lst ds)) => k l ds
    | _ => False := rfl
theorem mlK_mono {d : D} {k k' : Addr → List D → Prop} (h : ∀ l ds, k l ds → k' l ds) (q : mlK d M k) : mlK d M k' := by
  unfold mlK at q ⊢
  split at q
  · split at q
    · exact h _ _ q
    · exact q.elim
  · exact q.elim
/-- o.append(e) -/
def gMApp (go ge : GE) : GS := fun D r M => go r M fun d M1 => mlK d M1 fun l _ => ge r M1 fun z M2 => mlK (.ref l) M2 fun l ds => ds.length < sizeLine ∧ D.nx r (mup M2 l (.om (.lst (ds ++ [z]))))
theorem ds_mapp (ho : DE w1 p X o go) (he : DE true p X e ge)
    (hbase : attributeBase o "append" X.env (eval o X.env) = eval o X.env := by rfl)
    (hfew : ((backTo cpos (starEach [e] X.env)).all (fun x => !x.1) && (backToKw cpos (keywordEach [] X.env)).all (fun x => x.1.isSome)
      && decide ([e].length + ([] : List Keyword).length + (if ([] : List Keyword).isEmpty then 0 else 1) < 30)) = true := by rfl)
    (hline : (apos.endLine == cpos.line) = true := by rfl) (hs : starEach [e] X.env = (false, eval e X.env) :: starEach [] X.env := by rfl) (hplain : (backTo cpos (starEach [] X.env)).any (·.1) = false := by rfl)
    (hsw : swapsWith (.Call (.Attribute o "append" apos) [e] [] cpos) none pos.line X.env = pure false := by rfl) :
    DS X (.Expr (.Call (.Attribute o "append" apos) [e] [] cpos) pos) (gMApp go ge) := by
  have he' := da_one (w := true) he hs
  refine ⟨psI (ps_expr (pe_bm PySem.F.plainAttrs_list PySem.F.slot_list_append PySem.F.type_list_append mt_append ho.run he'.run hbase hfew hline hs hplain) hsw) fun D σ H ⟨B, E, r, M, O, R, q⟩ => ?_,
    fun D D' r M l q => ho.mono _ _ _ _ (fun d M1 q1 => mlK_mono (fun l _ q2 => he.mono _ _ _ _ (fun z M2 q3 => mlK_mono (fun l ds q4 => ⟨q4.1, DEnds.Le.nx ‹_› _ _ q4.2⟩) q3) q2) q1) q⟩
  refine ho.on R q fun d M1 v H1 O1 k1 R1 l1 i1 => ?_
  unfold mlK at k1
  split at k1
  · rename_i l
    have := is1_ref i1.one
    subst this
    split at k1
    · rename_i ds em
      obtain ⟨_, _, vs, e1, e2⟩ := R1.m.mem _ _ em
      refine ⟨.inl ⟨rfl, vs, SqL.of e1⟩, ?_⟩
      refine he'.on R1 (k := fun zs M2 => ∃ z, zs = [z] ∧ mlK (.ref l) M2 fun l ds => ds.length < sizeLine ∧ (LS X B E D).nx r (mup M2 l (.om (.lst (ds ++ [z]))))) (he.mono _ _ _ _ (fun z M2 q1 => ⟨z, rfl, q1⟩) k1) fun zs M2 us H2 O2 k2 R2 l2 i2 => ?_
      obtain ⟨z, rfl, k2⟩ := k2
      have i3 := isXL_strong i2
      cases i3 with
      | @cons u _ us' _ i4 t =>
        cases t
        rw [mlK_ref] at k2
        split at k2
        · rename_i ds2 em2
          obtain ⟨_, _, vs2, f1, f2⟩ := R2.m.mem _ _ em2
          have hav : Av B M2 O2 l := .inr (.inl (by rw [em2]; simp))
          refine ⟨l, vs2, u, rfl, rfl, f1, by rw [f2.length]; exact k2.1, ?_⟩
          refine k2.2 σ _ O2 (R2.mutM (m' := .om (.lst (ds2 ++ [z]))) em2 ⟨vs2 ++ [u], upd_same, ?_⟩).1
          exact (f2.append (.cons i4 .nil)).step (step_upd hav)
        · exact k2.elim
    · exact k1.elim
  · exact k1.elim
end
end DL

set_option Elab.async false
set_option linter.all false
set_option maxRecDepth 100000
/-! DL25: pop, insert of lists in memory; methods, instances made. -/
namespace DL
open PySem PySem.Spec PySem.W PyProof.Rows L2
section
variable {X : Cx} {w p w1 w2 : Bool} {o e a b : Expr} {es : List Expr} {g ga gb ge go : GE} {gs : GA} {B : Addr → Prop} {E : En} {σ : L2.St} {H H' : Hp} {r : DL.Fr} {M M' : Mem} {O O' : Own} {pos pos' apos cpos : Pos} {l : Addr} {f : PySem.Str}
/-- o.pop(i) -/
def popK (z : D) (ds : List D) (k : D → List D → Prop) : Prop := match z with
  | .int i => (0 ≤ i ∧ i < ds.length ∧ i < 2 ^ 62) ∧ match ds[i.toNat]? with
    | some y => k y (ds.eraseIdx i.toNat)
    | none => False
  | _ => False
theorem popK_int {i : Int} {ds : List D} {k : D → List D → Prop} : popK (.int i) ds k = ((0 ≤ i ∧ i < ds.length ∧ i < 2 ^ 62) ∧ match ds[i.toNat]? with
    | some y => k y (ds.eraseIdx i.toNat)
    | none => False) := rfl
theorem popK_mono {z : D} {ds : List D} {k k' : D → List D → Prop} (h : ∀ y ds, k y ds → k' y ds) (q : popK z ds k) : popK z ds k' := by
  unfold popK at q ⊢
  split at q
  · refine ⟨q.1, ?_⟩
    have q2 := q.2
    split at q2
    · exact h _ _ q2
    · exact q2.elim
  · exact q.elim
def gMPop (go ge : GE) : GE := fun r M Q => go r M fun d M1 => mlK d M1 fun l _ => ge r M1 fun z M2 => mlK (.ref l) M2 fun l ds => popK z ds fun y ds' => Q y (mup M2 l (.om (.lst ds')))
theorem IsL.erase {K : PySem.W.Frag} {A : Addr → Prop} {H : Hp} : ∀ {vs : List V} {ds : List D} (i : Nat), IsL K A H vs ds → IsL K A H (vs.eraseIdx i) (ds.eraseIdx i)
  | _, _, _, .nil => .nil
  | _, _, 0, .cons _ t => t
  | _, _, i + 1, .cons h t => .cons h (IsL.erase i t)
theorem Rl.mutM {M' : Mem} (s : Step (Mut M O) H (Mut M' O) H') : Rl false M O H M' O H' := ⟨fun z => (nomatch z), s⟩
theorem de_mpop (ho : DE w1 false X o go) (he : DE true false X e ge)
    (hbase : attributeBase o "pop" X.env (eval o X.env) = eval o X.env := by rfl)
    (hfew : ((backTo cpos (starEach [e] X.env)).all (fun x => !x.1) && (backToKw cpos (keywordEach [] X.env)).all (fun x => x.1.isSome)
      && decide ([e].length + ([] : List Keyword).length + (if ([] : List Keyword).isEmpty then 0 else 1) < 30)) = true := by rfl)
    (hline : (apos.endLine == cpos.line) = true := by rfl) (hs : starEach [e] X.env = (false, eval e X.env) :: starEach [] X.env := by rfl) (hplain : (backTo cpos (starEach [] X.env)).any (·.1) = false := by rfl) :
    DE true false X (.Call (.Attribute o "pop" apos) [e] [] cpos) (gMPop go ge) := by
  have he' := da_one (w := true) he hs
  refine ⟨peI (pe_bm PySem.F.plainAttrs_list PySem.F.slot_list_pop PySem.F.type_list_pop mt_popAt ho.run he'.run hbase hfew hline hs hplain) fun σ H Q ⟨B, E, r, M, O, R, q⟩ => ?_,
    fun r M Q Q' h q => ho.mono _ _ _ _ (fun d M1 q1 => mlK_mono (fun l _ q2 => he.mono _ _ _ _ (fun z M2 q3 => mlK_mono (fun l ds q4 => popK_mono (fun y ds q5 => h _ _ q5) q4) q3) q2) q1) q⟩
  refine ho.on R q fun d M1 v H1 O1 k1 R1 l1 i1 => ?_
  unfold mlK at k1
  split at k1
  · rename_i l
    have := is1_ref i1.one
    subst this
    split at k1
    · rename_i ds em
      obtain ⟨_, _, vs, e1, e2⟩ := R1.m.mem _ _ em
      refine ⟨.inl ⟨rfl, vs, SqL.of e1⟩, ?_⟩
      refine he'.on R1 (k := fun zs M2 => ∃ z, zs = [z] ∧ mlK (.ref l) M2 fun l ds => popK z ds fun y ds' => LE true false X B E σ r H M O Q y (mup M2 l (.om (.lst ds')))) (he.mono _ _ _ _ (fun z M2 q1 => ⟨z, rfl, q1⟩) k1) fun zs M2 us H2 O2 k2 R2 l2 i2 => ?_
      obtain ⟨z, rfl, k2⟩ := k2
      have i3 := isXL_strong i2
      cases i3 with
      | @cons u _ us' _ i4 t =>
        cases t
        rw [mlK_ref] at k2
        split at k2
        · rename_i ds2 em2
          obtain ⟨_, _, vs2, f1, f2⟩ := R2.m.mem _ _ em2
          have hav : Av B M2 O2 l := .inr (.inl (by rw [em2]; simp))
          unfold popK at k2
          split at k2
          · rename_i i
            cases i4
            obtain ⟨⟨c1, c2, c3⟩, k3⟩ := k2
            split at k3
            · rename_i y ey
              obtain ⟨yv, hy, iy⟩ := f2.get ey
              refine ⟨l, vs2, i, i.toNat, yv, rfl, rfl, f1, by omega, by omega, PySem.seqIndex_of c1 (by rw [f2.length]; exact c2), hy, ?_⟩
              obtain ⟨R3, s3⟩ := R2.mutM (u := .lst (vs2.eraseIdx i.toNat)) (m' := .om (.lst (ds2.eraseIdx i.toNat))) em2 ⟨vs2.eraseIdx i.toNat, upd_same, (f2.erase _).step (step_upd hav)⟩
              refine k3 yv _ O2 R3 (((l1.loose).trans (l2.loose)).trans (Rl.mutM s3)) ?_
              have nm : M2 l ≠ none := by rw [em2]; simp
              show Is X.K (Av B (mup M2 l _) O2) _ yv y
              rw [av_mup nm]
              exact iy.step (step_upd hav)
            · exact k3.elim
          · exact k2.elim
        · exact k2.elim
    · exact k1.elim
  · exact k1.elim
/-- o.insert(i, e) -/
def insK (z : D) (ds : List D) (y : D) (k : List D → Prop) : Prop := match z with
  | .int i => (0 ≤ i ∧ i < 2 ^ 62 ∧ ds.length < sizeLine) ∧ k (ds.take i.toNat ++ [y] ++ ds.drop i.toNat)
  | _ => False
theorem insK_int {i : Int} {ds : List D} {y : D} {k : List D → Prop} : insK (.int i) ds y k = ((0 ≤ i ∧ i < 2 ^ 62 ∧ ds.length < sizeLine) ∧ k (ds.take i.toNat ++ [y] ++ ds.drop i.toNat)) := rfl
def ins2K (zs ds : List D) (k : List D → Prop) : Prop := match zs with
  | [z, y] => insK z ds y k
  | _ => False
theorem ins2K_2 {z y : D} {ds : List D} {k : List D → Prop} : ins2K [z, y] ds k = insK z ds y k := rfl
def gMIns (go : GE) (gs : GA) : GS := fun D r M => go r M fun d M1 => mlK d M1 fun l _ => gs r M1 fun zs M2 => mlK (.ref l) M2 fun l ds => ins2K zs ds fun ds' => D.nx r (mup M2 l (.om (.lst ds')))
theorem ds_mins (ho : DE w1 p X o go) (ha : DA true p X [a, b] gs)
    (hbase : attributeBase o "insert" X.env (eval o X.env) = eval o X.env := by rfl)
    (hfew : ((backTo cpos (starEach [a, b] X.env)).all (fun x => !x.1) && (backToKw cpos (keywordEach [] X.env)).all (fun x => x.1.isSome)
      && decide ([a, b].length + ([] : List Keyword).length + (if ([] : List Keyword).isEmpty then 0 else 1) < 30)) = true := by rfl)
    (hline : (apos.endLine == cpos.line) = true := by rfl) (hs : starEach [a, b] X.env = (false, eval a X.env) :: starEach [b] X.env := by rfl) (hplain : (backTo cpos (starEach [b] X.env)).any (·.1) = false := by rfl)
    (hsw : swapsWith (.Call (.Attribute o "insert" apos) [a, b] [] cpos) none pos.line X.env = pure false := by rfl) :
    DS X (.Expr (.Call (.Attribute o "insert" apos) [a, b] [] cpos) pos) (gMIns go gs) := by
  refine ⟨psI (ps_expr (pe_bm PySem.F.plainAttrs_list PySem.F.slot_list_insert PySem.F.type_list_insert mt_insert ho.run ha.run hbase hfew hline hs hplain) hsw) fun D σ H ⟨B, E, r, M, O, R, q⟩ => ?_,
    fun D D' r M l q => ho.mono _ _ _ _ (fun d M1 q1 => mlK_mono (fun _ _ q2 => ha.mono _ _ _ _ (fun zs M2 q3 => mlK_mono (fun _ ds q4 => ?_) q3) q2) q1) q⟩
  · refine ho.on R q fun d M1 v H1 O1 k1 R1 l1 i1 => ?_
    unfold mlK at k1
    split at k1
    · rename_i l
      have := is1_ref i1.one
      subst this
      split at k1
      · rename_i ds em
        obtain ⟨_, _, vs, e1, e2⟩ := R1.m.mem _ _ em
        refine ⟨.inl ⟨rfl, vs, SqL.of e1⟩, ?_⟩
        refine ha.on R1 k1 fun zs M2 us H2 O2 k2 R2 l2 i2 => ?_
        have i3 := isXL_strong i2
        change mlK (.ref l) M2 (fun l ds => ins2K zs ds fun ds' => (LS X B E D).nx r (mup M2 l (.om (.lst ds')))) at k2
        rw [mlK_ref] at k2
        split at k2
        · rename_i ds2 em2
          obtain ⟨_, _, vs2, f1, f2⟩ := R2.m.mem _ _ em2
          have hav : Av B M2 O2 l := .inr (.inl (by rw [em2]; simp))
          unfold ins2K at k2
          split at k2
          · rename_i z y
            cases i3 with
            | @cons u _ us' _ i4 t =>
              cases t with
              | @cons u2 _ us2 _ i5 t =>
                cases t
                unfold insK at k2
                split at k2
                · rename_i i
                  cases i4
                  obtain ⟨⟨c1, c2, c3⟩, k3⟩ := k2
                  refine ⟨l, vs2, i, u2, rfl, rfl, f1, by rw [f2.length]; exact c3, c1, by omega, ?_⟩
                  refine k3 σ _ O2 (R2.mutM (u := .lst (vs2.take i.toNat ++ [u2] ++ vs2.drop i.toNat)) (m' := .om (.lst _)) em2 ⟨_, upd_same, ?_⟩).1
                  exact (((f2.take _).append (.cons i5 .nil)).append (f2.drop _)).step (step_upd hav)
                · exact k2.elim
          · exact k2.elim
        · exact k2.elim
      · exact k1.elim
    · exact k1.elim
  · unfold ins2K at q4 ⊢
    split at q4
    · unfold insK at q4 ⊢
      split at q4
      · exact ⟨q4.1, l.nx _ _ q4.2⟩
      · exact q4
    · exact q4.elim

/-! ### methods -/
/-- a method's promise: of the class at C -/
structure DefM (P : Program) (w : World) (K : PySem.W.Frag) (mg : PySem.Str → Option Value) (base : Heap) (n : Nat) (C : Addr) (m : PySem.Str) (ks : List AK) (fs : FS) : Prop where
  ex : ∃ f fd ps, FnG P w K mg base n f fd ps (toSp K (.v :: ks) fs) ∧ Cls K C ∧ Meth K C m f ∧ Binds K fd ps []
  mo : MonoF fs
theorem DefM.mono {P : Program} {w : World} {K : PySem.W.Frag} {mg : PySem.Str → Option Value} {base : Heap} {j n : Nat} {C : Addr} {m : PySem.Str} {ks : List AK} {fs : FS} (D : DefM P w K mg base j C m ks fs) (h : j ≤ n := by decide) : DefM P w K mg base n C m ks fs :=
  let ⟨f, fd, ps, F, q⟩ := D.ex
  ⟨⟨f, fd, ps, F.mono h, q⟩, D.mo⟩
def mthK (m : PySem.Str) (tbl : List (Addr × FS)) (d : D) (M : Mem) (k : Addr → FS → Prop) : Prop := match d with
  | .ref a => match M a with
    | some (.ins C fl) => fl.lookup m = none ∧ ∃ fs, (C, fs) ∈ tbl ∧ k a fs
    | _ => False
  | _ => False
theorem mthK_ref {m : PySem.Str} {tbl : List (Addr × FS)} {k : Addr → FS → Prop} : mthK m tbl (.ref l) M k = match M l with
    | some (.ins C fl) => fl.lookup m = none ∧ ∃ fs, (C, fs) ∈ tbl ∧ k l fs
    | _ => False := rfl
def gMeth (m : PySem.Str) (tbl : List (Addr × FS)) (go : GE) (gs : GA) : GE := fun r M Q => go r M fun d M1 => mthK m tbl d M1 fun a fs => gs r M1 fun ds M2 => fs (.ref a :: ds) M2 Q r.ex
variable {n : Nat} {m : PySem.Str} {ks : List AK} {tbl : List (Addr × FS)}
theorem gMeth_mono (hT : ∀ q ∈ tbl, DefM X.prog X.w X.K X.mg X.base n q.1 m ks q.2) (hom : ∀ r M Q Q', (∀ d M', Q d M' → Q' d M') → go r M Q → go r M Q') (ham : ∀ r M Q Q', (∀ d M', Q d M' → Q' d M') → gs r M Q → gs r M Q') :
    ∀ r M Q Q', (∀ d M', Q d M' → Q' d M') → gMeth m tbl go gs r M Q → gMeth m tbl go gs r M Q' := fun r M Q Q' h q => hom _ _ _ _ (fun d M1 q1 => by
  unfold mthK at q1 ⊢
  split at q1
  · split at q1
    · obtain ⟨h1, fs, h2, h3⟩ := q1
      exact ⟨h1, fs, h2, ham _ _ _ _ (fun ds M2 q2 => (hT _ h2).mo _ _ _ _ _ _ h (fun _ _ z => z) q2) h3⟩
    · exact q1.elim
  · exact q1.elim) q
theorem de_meth {pl : Sem Bool} (hT : ∀ q ∈ tbl, DefM X.prog X.w X.K X.mg X.base n q.1 m ks q.2) (hr : Room n X.A) (hgd : X.A.guards = some []) (ho : DE w1 false X o go) (ha : DAk false X ks (e :: es) gs) (hv : vks ks = true := by rfl)
    (hst : starEach (e :: es) X.env = (false, eval e X.env) :: starEach es X.env := by rfl) (hpl : (backTo pos (starEach es X.env)).any (·.1) = false := by rfl)
    (ht : eval (.Call (.Attribute o m apos) (e :: es) [] pos) X.env = (do
      let ov ← eval o X.env
      standAt apos.atName
      let (f, first) ← holding [ov] (getMethod ov m pl)
      callWith pos f first (backTo pos (starEach (e :: es) X.env)) (backToKw pos (keywordEach [] X.env))) := by rfl) :
    DE true false X (.Call (.Attribute o m apos) (e :: es) [] pos) (gMeth m tbl go gs) := by
  refine ⟨⟨fun pins s σ H Q I ⟨B, E, r, M, O, R, q⟩ => ?_⟩, gMeth_mono hT ho.mono ha.mono⟩
  have hq := ho.on R q (Q := fun x H1 => ∃ a C dx vs fs M1 O1, x = .ref a ∧ H1 a = some (.ins C dx vs) ∧ vs.lookup m = none ∧ DefM X.prog X.w X.K X.mg X.base n C m ks fs ∧ Rep X B E σ H1 r M1 O1 ∧ Rl false M O H M1 O1 H1 ∧
    gs r M1 fun ds M2 => fs (.ref a :: ds) M2 (LE true false X B E σ r H M O Q) r.ex) fun d M1 v H1 O1 k1 R1 l1 i1 => by
      unfold mthK at k1
      split at k1
      · rename_i l
        have := is1_ref i1.one
        subst this
        split at k1
        · rename_i C fl em
          obtain ⟨_, _, dx, vs, e1, e2⟩ := R1.m.mem _ _ em
          obtain ⟨h1, fs, h2, h3⟩ := k1
          exact ⟨l, C, dx, vs, fs, M1, O1, rfl, e1, e2.no h1, hT _ h2, R1, l1, h3⟩
        · exact k1.elim
      · exact k1.elim
  refine PySem.W.methodCall_KW (pl := pl) (thn (ho.run.run pins s σ H _ I hq) fun u s1 ⟨x, H1, I1, rx, a, C, dx, vs, fs, M1, O1, ex, ea, lk, D, R1, l1, k1⟩ => ?_) ht
  subst ex
  obtain rfl : u = Value.ref a := rx
  obtain ⟨f, fd, ps, F, c, hm, hb⟩ := D.ex
  refine getmeth_ok I1 ea c hm lk ?_
  have hq2 := ha.on R1 k1 (Q := fun vs H2 => Passes (L2.CX X.prog X.w) X (xk E.W) ∧ toSp X.K (.v :: ks) fs (.ref a :: vs) H2 Q (xk E.W)) fun ds M2 vs H2 O2 k2 R2 l2 i2 =>
    ⟨R2.ps, callM_pre (ks := .v :: ks) (vs := .ref a :: vs) (ds := .ref a :: ds) R2 (by simpa [vks] using hv) ⟨Is.ref a, i2⟩ (D.mo _ _ _ _ _ _ (fun d M' q2 => LE.go (l1.trans l2) q2) (fun C M' q2 => q2) k2) D.mo⟩
  refine PySem.W.callWith_K (first := [.ref a]) (h₀ := X.base) I.ok.mod.kin hm.kp (thn (ha.run.run pos pins s1 σ H1 _ I1 hq2) fun us s2 ⟨vs, H2, I2, r2, lk2, qq⟩ => ⟨I2.kIn, ?_⟩) hst hpl
  exact run_fg (us := .ref a :: us) (vs := .ref a :: vs) F hr hgd hb lk2 I2 (.cons rfl r2) qq
theorem de_meth0 {pl : Sem Bool} (hT : ∀ q ∈ tbl, DefM X.prog X.w X.K X.mg X.base n q.1 m [] q.2) (hr : Room n X.A) (hgd : X.A.guards = some []) (ho : DE w1 false X o go)
    (ht : eval (.Call (.Attribute o m apos) [] [] pos) X.env = (do
      let ov ← eval o X.env
      standAt apos.atName
      let (f, first) ← holding [ov] (getMethod ov m pl)
      callWith pos f first (backTo pos (starEach [] X.env)) (backToKw pos (keywordEach [] X.env))) := by rfl) :
    DE true false X (.Call (.Attribute o m apos) [] [] pos) (gMeth m tbl go gNil) := by
  refine ⟨⟨fun pins s σ H Q I ⟨B, E, r, M, O, R, q⟩ => ?_⟩, gMeth_mono hT ho.mono fun r M Q Q' h q => h _ _ q⟩
  have hq := ho.on R q (Q := fun x H1 => ∃ a C dx vs fs M1 O1, x = .ref a ∧ H1 a = some (.ins C dx vs) ∧ vs.lookup m = none ∧ DefM X.prog X.w X.K X.mg X.base n C m [] fs ∧ Rep X B E σ H1 r M1 O1 ∧ Rl false M O H M1 O1 H1 ∧
    fs [.ref a] M1 (LE true false X B E σ r H M O Q) r.ex) fun d M1 v H1 O1 k1 R1 l1 i1 => by
      unfold mthK at k1
      split at k1
      · rename_i l
        have := is1_ref i1.one
        subst this
        split at k1
        · rename_i C fl em
          obtain ⟨_, _, dx, vs, e1, e2⟩ := R1.m.mem _ _ em
          obtain ⟨h1, fs, h2, h3⟩ := k1
          exact ⟨l, C, dx, vs, fs, M1, O1, rfl, e1, e2.no h1, hT _ h2, R1, l1, h3⟩
        · exact k1.elim
      · exact k1.elim
  refine PySem.W.methodCall_KW (pl := pl) (thn (ho.run.run pins s σ H _ I hq) fun u s1 ⟨x, H1, I1, rx, a, C, dx, vs, fs, M1, O1, ex, ea, lk, D, R1, l1, k1⟩ => ?_) ht
  subst ex
  obtain rfl : u = Value.ref a := rx
  obtain ⟨f, fd, ps, F, c, hm, hb⟩ := D.ex
  refine getmeth_ok I1 ea c hm lk ?_
  exact PySem.W.callWith_K0 (first := [.ref a]) I1.kIn hm.kp (run_fg (us := [.ref a]) (vs := [.ref a]) F hr hgd hb R1.ps I1 (.cons rfl .nil)
    (callM_pre (ks := [.v]) (vs := [.ref a]) (ds := [.ref a]) R1 rfl ⟨Is.ref a, trivial⟩ (D.mo _ _ _ _ _ _ (fun d M' q2 => LE.go l1 q2) (fun C M' q2 => q2) k1) D.mo))

/-! ### instances made -/
structure DefI (P : Program) (w : World) (K : PySem.W.Frag) (mg : PySem.Str → Option Value) (base : Heap) (n : Nat) (x : PySem.Str) (C : Addr) (ks : List AK) (Fk : Prop) (fs : FS) : Prop where
  ex : ∃ f fd ps, FnG P w K mg base n f fd ps (toSp K (.v :: ks) fs) ∧ Mk K C f ∧ Binds K fd ps []
  mo : MonoF fs
  g : mg x = some (.ref C)
  fk : Fk
theorem DefI.mono {P : Program} {w : World} {K : PySem.W.Frag} {mg : PySem.Str → Option Value} {base : Heap} {j n : Nat} {x : PySem.Str} {C : Addr} {ks : List AK} {Fk : Prop} {fs : FS} (D : DefI P w K mg base j x C ks Fk fs) (h : j ≤ n := by decide) : DefI P w K mg base n x C ks Fk fs :=
  let ⟨f, fd, ps, F, q⟩ := D.ex
  ⟨⟨f, fd, ps, F.mono h, q⟩, D.mo, D.g, D.fk⟩
/-- C(..): what is known of the class, then __init__ -/
def gMake (C : Addr) (Fk : Prop) (fs : FS) (gs : GA) : GE := fun r M Q => gs r M fun ds M1 => Fk → ∀ x, M1 x = none → fs (.ref x :: ds) (mup M1 x (.ins C [])) (fun d M2 => d = .non ∧ Q (.ref x) M2) r.ex
theorem run_mk {C f : Addr} {fd : FuncData} {ps : List PySem.Str} {sp : Sp} {Ex : XK} {pins : List (Addr × Obj)} {s : Shared} {Q : VK} {us : List Value} {vs : List V} (Mk0 : Mk X.K C f) (F : FnG X.prog X.w X.K X.mg X.base n f fd ps sp) (hr : Room (n + 1) X.A) (hgd : X.A.guards = some [])
    (hb : Binds X.K fd ps []) (hx : Passes (L2.CX X.prog X.w) X Ex) (I : Inv X pins σ H s) (rv : Vals vs us)
    (h : ∀ x dx, H x = none → H dx = none → dx ≠ x → sp (.ref x :: vs) (upd (upd H dx (.own x)) x (.ins C dx [])) (fun v H2 => v = .non ∧ Q (.ref x) H2) Ex) : wpAny (model X.prog X.w) X.A (call (.ref C) us) (EP X pins σ Q) X.xe s := by
  have hq := h (s.heap.objs.size + 1) s.heap.objs.size (I.hok.fresh (Nat.le_succ _)) (I.hok.fresh (Nat.le_refl _)) (Nat.ne_of_lt (Nat.lt_succ_self _))
  have I2 := Inv.made (C := C) I
  have r2 : Vals (V.ref (s.heap.objs.size + 1) :: vs) (Value.ref (s.heap.objs.size + 1) :: us) := .cons rfl rv
  have hl : ((Value.ref (s.heap.objs.size + 1) :: us) ++ []).length = ps.length := by
    rw [List.append_nil, ← r2.length]
    exact F.len _ _ _ _ hq
  have hbd := hb _ (Value.ref (s.heap.objs.size + 1) :: us) I2.kIn hl
  rw [List.append_nil] at hbd
  refine wpAny_call (make_map (f := f) I.kIn Mk0.makes Mk0.init (beq_iff_eq.mp Mk0.fn) (codeAny_mono (F.run _ X.stack _ _ ⟨Value.ref (s.heap.objs.size + 1) :: us, []⟩ (Value.ref (s.heap.objs.size + 1) :: us) _ _ Ex (hr.make C us []) hgd
    (I2.env0.make C us []) hbd r2 hq) fun r s' hq' => ?_))
  cases r with
  | error e => exact hx pins σ _ _ e s' I2 hq'
  | ok fl =>
    cases fl with
    | ret u =>
      obtain ⟨v, H', I3, rv, ev, q3⟩ := I2.after hq'
      subst ev
      exact ⟨rv, ⟨V.ref (s.heap.objs.size + 1), H', I3, rfl, q3⟩⟩
    | next => exact False.elim hq'
    | brk => exact False.elim hq'
    | cont => exact False.elim hq'
theorem args_step {K : PySem.W.Frag} {A A' U U' : Addr → Prop} (sA : Step A H A' H') (sU : Step U H U' H') : ∀ {ks : List AK} {vs : List V} {ds : List D}, vks ks = true → ArgsX K A U H ks vs ds → ArgsX K A' U' H' ks vs ds
  | [], [], [], _, _ => trivial
  | .v :: _, _ :: _, _ :: _, h, q => ⟨Is.step sA q.1, args_step sA sU (by simpa [vks] using h) q.2⟩
  | .s :: _, _ :: _, _ :: _, h, q => by
    obtain ⟨⟨a, ns, e1, e2, h3⟩, q2⟩ := q
    exact ⟨⟨a, ns, e1, e2, h3.step sU⟩, args_step sA sU (by simpa [vks] using h) q2⟩
  | .b :: _, _ :: _, _ :: _, h, _ => by simp [vks] at h
  | [], [], _ :: _, _, h => h.elim
  | [], _ :: _, [], _, h => h.elim
  | [], _ :: _, _ :: _, _, h => h.elim
  | _ :: _, [], [], _, h => h.elim
  | _ :: _, [], _ :: _, _, h => h.elim
  | _ :: _, _ :: _, [], _, h => h.elim
theorem make_pre {C : Addr} {fs : FS} (R : Rep X B E σ H r M O) {vs : List V} {ds : List D} (hv : vks ks = true) (ha : ArgsX X.K (Av B M O) (Mut M O) H ks vs ds) {Q : VK} (hmf : MonoF fs)
    (h : ∀ x, M x = none → fs (.ref x :: ds) (mup M x (.ins C [])) (fun d M2 => d = .non ∧ LE true false X B E σ r H M O Q (.ref x) M2) r.ex) :
    ∀ x dx, H x = none → H dx = none → dx ≠ x → toSp X.K (.v :: ks) fs (.ref x :: vs) (upd (upd H dx (.own x)) x (.ins C dx [])) (fun v H2 => v = .non ∧ Q (.ref x) H2) (xk E.W) := by
  intro x dx nx ndx ne
  have R1 := R.same (same_upd (o := .own x) ndx)
  have nx1 : upd H dx (.own x) x = none := by rw [upd_ne (fun z => ne z.symm)]; exact nx
  have N := New.of R1 (o := .ins C dx []) nx1
  have R2 := N.toMem (m := .ins C []) ⟨dx, [], upd_same, .nil⟩
  have hx := h x N.mnone
  have sm : Same H (upd (upd H dx (.own x)) x (.ins C dx [])) := fun a o e => by
    rw [upd_ne (ne_of_none e nx), upd_ne (ne_of_none e ndx)]
    exact e
  have nav := R.m.fresh nx
  have sU : Step (Mut M O) H (Mut (mup M x (.ins C [])) O) (upd (upd H dx (.own x)) x (.ins C dx [])) := fun a o e n => by
    refine ⟨sm a o e, ?_⟩
    rw [mut_mupN]
    exact fun z => z.elim n fun z => by subst z; rw [nx] at e; cases e
  have lz : Rl false M O H (mup M x (.ins C [])) O (upd (upd H dx (.own x)) x (.ins C dx [])) := Rl.mutM sU
  refine callM_pre (ks := .v :: ks) (vs := .ref x :: vs) (ds := .ref x :: ds) R2 (by simpa [vks] using hv) ⟨Is.ref x, ?_⟩ (hmf _ _ _ _ _ _ (fun d M' q2 => ?_) (fun C M' q2 => q2) hx) hmf
  · exact args_step lz.avs sU hv ha
  · intro v H3 O3 R3 l3 i3
    obtain ⟨rfl, q3⟩ := q2
    have i3 : Is X.K (Av B M' O3) H3 v .non := i3
    cases i3
    exact ⟨rfl, q3 _ H3 O3 R3 (lz.trans l3) (Is.ref x)⟩
theorem de_make {x : PySem.Str} {C : Addr} {Fk : Prop} {fs : FS} {pf : Pos} (D : DefI X.prog X.w X.K X.mg X.base n x C ks Fk fs) (hr : Room (n + 1) X.A) (hgd : X.A.guards = some []) (ha : DAk false X ks (e :: es) gs) (hv : vks ks = true := by rfl) (hg : Gl X x := by rfl)
    (hdb : (x == ("__debug__" : PySem.Str)) = false := by decide) (he : starEach (e :: es) X.env = (false, eval e X.env) :: starEach es X.env := by rfl) (hpl : (backTo pos (starEach es X.env)).any (·.1) = false := by rfl) :
    DE true false X (.Call (.Name x pf) (e :: es) [] pos) (gMake C Fk fs gs) := by
  obtain ⟨f, fd, ps, F, Mk0, hb⟩ := D.ex
  refine ⟨⟨fun pins s σ H Q I ⟨B, E, r, M, O, R, q⟩ => ?_⟩, fun r M Q Q' h q => ha.mono _ _ _ _ (fun ds M1 q1 hf x hx => D.mo _ _ _ _ _ _ (fun d M2 q2 => ⟨q2.1, h _ _ q2.2⟩) (fun _ _ z => z) (q1 hf x hx)) q⟩
  refine wpAny_Call_Name_kw (ld_glob I hg D.g ?_ hdb)
  have hq := ha.on R q (Q := fun vs H1 => Passes (L2.CX X.prog X.w) X (xk E.W) ∧ ∀ x dx, H1 x = none → H1 dx = none → dx ≠ x → toSp X.K (.v :: ks) fs (.ref x :: vs) (upd (upd H1 dx (.own x)) x (.ins C dx [])) (fun v H2 => v = .non ∧ Q (.ref x) H2) (xk E.W))
    fun ds M1 vs H1 O1 k1 R1 l1 i1 => ⟨R1.ps, make_pre R1 hv i1 D.mo fun x hx => D.mo _ _ _ _ _ _ (fun d M2 q2 => ⟨q2.1, LE.go l1 q2.2⟩) (fun _ _ z => z) (k1 D.fk x hx)⟩
  refine PySem.W.callWith_K (h₀ := X.base) I.ok.mod.kin Mk0.kp (thn (ha.run.run pos pins s σ H _ I hq) fun us s1 ⟨vs, H1, I1, r1, lk, qq⟩ => ⟨I1.kIn, ?_⟩) he hpl
  exact run_mk Mk0 F hr hgd hb lk I1 r1 qq
end
end DL

set_option Elab.async false
set_option linter.all false
set_option maxRecDepth 100000
/-! DL26: ranges with a step, list(range(..)). -/
namespace DL
open PySem PySem.Spec PySem.W PyProof.Rows L2
theorem ixT_ints {ns : List Int} {i : Int} {k : Nat → Prop} : ixT (ns.map .int) (.int i) k = (i ∈ ns ∧ k (ns.idxOf i)) := by
  unfold ixT
  rw [intsOf_map]
section
variable {X : Cx} {w p w1 w2 : Bool} {tg e a b : Expr} {g ga gb : GE} {gs : GA} {B : Addr → Prop} {E : En} {σ : L2.St} {H H' : Hp} {r : DL.Fr} {M M' : Mem} {O O' : Own} {pos pos' : Pos}
/-- lo, lo + c, .. -/
def rngC (lo c : Int) (n : Nat) : List D := (List.range n).map fun (i : Nat) => D.int (lo + (i : Int) * c)
theorem rngC_get {lo c : Int} {n i : Nat} {d : D} (h : (rngC lo c n)[i]? = some d) : i < n ∧ d = .int (lo + (i : Int) * c) := by
  unfold rngC at h
  rw [List.getElem?_map] at h
  cases q : (List.range n)[i]? with
  | none => rw [q] at h; cases h
  | some j =>
    rw [q] at h
    obtain ⟨h1, h2⟩ := List.getElem?_eq_some_iff.mp q
    rw [List.length_range] at h1
    rw [List.getElem_range] at h2
    subst h2
    have h : some (D.int (lo + ((i : Nat) : Int) * c)) = some d := h
    cases h
    exact ⟨h1, rfl⟩
theorem rngC_len (lo c : Int) (n : Nat) : (rngC lo c n).length = n := by unfold rngC; rw [List.length_map, List.length_range]
theorem walk_rngC {H1 : Hp} {M1 : Mem} {O1 : Own} {lo c : Int} {n : Nat} : WalkOk X B H1 M1 O1 (Itc lo c n) (rngC lo c n) := by
  intro A U H fA sA s i
  refine ⟨fun d hd => ?_, fun hle => by rw [rngC_len] at hle; exact hle⟩
  obtain ⟨h1, rfl⟩ := rngC_get hd
  refine ⟨h1, fun x H' ⟨e1, e2⟩ => ?_⟩
  subst e1; subst e2
  exact ⟨Same.refl _, .int _⟩
def giR3 (gs : GA) : GI := fun r M Q => gs r M fun ds M1 => match ds with
  | [.int i, .int j, .int c] => ∃ n, RgC i j c n ∧ Q (rngC i c n) M1
  | _ => False
theorem isXL3 {K : PySem.W.Frag} {A : Addr → Prop} {H : Hp} {vs : List V} {d1 d2 d3 : D} (h : IsL K A H vs [d1, d2, d3]) : ∃ u v x, vs = [u, v, x] ∧ Is K A H u d1 ∧ Is K A H v d2 ∧ Is K A H x d3 := by
  cases h with
  | cons h1 t => cases t with
    | cons h2 t => cases t with
      | cons h3 t => cases t; exact ⟨_, _, _, rfl, h1, h2, h3⟩
theorem di_range3 {c : Expr} {pf : Pos} (hg : Gl X "range") (hm : X.mg "range" = none) (ha : DA true p X [a, b, c] gs) (hs : starEach [a, b, c] X.env = (false, eval a X.env) :: starEach [b, c] X.env := by rfl) (hpl : (backTo pos (starEach [b, c] X.env)).any (·.1) = false := by rfl) : DI p X tg (.Call (.Name "range" pf) [a, b, c] [] pos) (giR3 gs) where
  ex := ⟨_, pi_range3 hg hm ha.run hs hpl, fun B E σ H r M O k R' R q hR => by
    refine ha.on R q fun ds M1 vs H1 O1 k1 R1 l1 i1 => ?_
    have i2 := isXL_strong i1
    split at k1
    · obtain ⟨u, v, x, rfl, iu, iv, ix⟩ := isXL3 i2
      cases iu; cases iv; cases ix
      obtain ⟨n, k1, k2⟩ := k1
      exact ⟨_, _, _, n, rfl, k1, hR _ M1 H1 O1 _ k2 R1 l1 walk_rngC⟩
    · exact k1.elim⟩
  mono := fun r M Q Q' h q => ha.mono _ _ _ _ (fun d M1 q1 => by
    split at q1
    · obtain ⟨n, q1, q2⟩ := q1
      exact ⟨n, q1, h _ _ q2⟩
    · exact q1.elim) q
/-- list(range(i, j)) -/
def rg2K (x y : D) (k : List D → Prop) : Prop := match x, y with
  | .int i, .int j => RgOk i j ∧ k (rngD i (j - i).toNat)
  | _, _ => False
theorem rg2K_int {i j : Int} {k : List D → Prop} : rg2K (.int i) (.int j) k = (RgOk i j ∧ k (rngD i (j - i).toNat)) := rfl
theorem rg2K_mono {x y : D} {k k' : List D → Prop} (h : ∀ ds, k ds → k' ds) (q : rg2K x y k) : rg2K x y k' := by
  unfold rg2K at q ⊢
  split at q
  · exact ⟨q.1, h _ q.2⟩
  · exact q.elim
def gFlR2 (ga gb : GE) : GF := fun r M Q => ga r M fun x M1 => gb r M1 fun y M2 => rg2K x y fun ds => Q (.lst ds) M2
def gFlR1 (ga : GE) : GF := fun r M Q => ga r M fun y M1 => rg2K (.int 0) y fun ds => Q (.lst ds) M1
theorem isL_rg {K : PySem.W.Frag} {A : Addr → Prop} {H : Hp} {i : Int} : ∀ {l : List Nat}, IsL K A H (l.map fun k => V.int (i + (k : Nat))) (l.map fun (k : Nat) => D.int (i + (k : Int)))
  | [] => .nil
  | k :: l => .cons (.int _) (isL_rg (l := l))
theorem df_listR2 {pf pr cp : Pos} (hc : X.calm = true) (hgl : Gl X "list") (hml : X.mg "list" = none) (hg : Gl X "range") (hm : X.mg "range" = none) (ha : DE true p X a ga) (hb : DE true p X b gb)
    (na : starEach [a, b] X.env = (false, eval a X.env) :: starEach [b] X.env := by rfl) (nb : starEach [b] X.env = (false, eval b X.env) :: starEach [] X.env := by rfl) (hp : (backTo cp (starEach [b] X.env)).any (·.1) = false := by rfl)
    (nl : starEach [.Call (.Name "range" pr) [a, b] [] cp] X.env = (false, eval (.Call (.Name "range" pr) [a, b] [] cp) X.env) :: starEach [] X.env := by rfl) :
    DF p X (.Call (.Name "list" pf) [.Call (.Name "range" pr) [a, b] [] cp] [] pos) (gFlR2 ga gb) := by
  refine ⟨peI (pe_listRg hc hgl hml (prg_2 hg hm ha.run hb.run na nb hp) nl) fun σ H Q ⟨B, E, r, M, O, R, q⟩ => ?_,
    fun r M Q Q' h q => ha.mono _ _ _ _ (fun x M1 q1 => hb.mono _ _ _ _ (fun y M2 q2 => rg2K_mono (fun _ q3 => h _ _ q3) q2) q1) q⟩
  refine ha.on R q fun d M1 v H1 O1 k1 R1 l1 i1 => ?_
  refine hb.on R1 k1 fun z M2 u H2 O2 k2 R2 l2 i2 => ?_
  unfold rg2K at k2
  split at k2
  · have e1 := is1_int i1.one
    have e2 := is1_int i2.one
    subst e1; subst e2
    refine ⟨_, _, rfl, rfl, k2.1, fun q hq => ?_⟩
    obtain ⟨N, o⟩ := new_lst R2 (ds := rngD _ _) isL_rg hq
    exact k2.2 q _ O2 N ((l1.trans l2).trans (Rl.of_same (same_upd hq))) o
  · exact k2.elim
theorem df_listR1 {pf pr cp : Pos} (hc : X.calm = true) (hgl : Gl X "list") (hml : X.mg "list" = none) (hg : Gl X "range") (hm : X.mg "range" = none) (ha : DE true p X a ga)
    (na : starEach [a] X.env = (false, eval a X.env) :: starEach [] X.env := by rfl)
    (nl : starEach [.Call (.Name "range" pr) [a] [] cp] X.env = (false, eval (.Call (.Name "range" pr) [a] [] cp) X.env) :: starEach [] X.env := by rfl) :
    DF p X (.Call (.Name "list" pf) [.Call (.Name "range" pr) [a] [] cp] [] pos) (gFlR1 ga) := by
  refine ⟨peI (pe_listRg hc hgl hml (prg_1 hg hm ha.run na) nl) fun σ H Q ⟨B, E, r, M, O, R, q⟩ => ?_,
    fun r M Q Q' h q => ha.mono _ _ _ _ (fun x M1 q1 => rg2K_mono (fun _ q3 => h _ _ q3) q1) q⟩
  refine ha.on R q fun d M1 v H1 O1 k1 R1 l1 i1 => ?_
  unfold rg2K at k1
  split at k1
  · rename_i x y i j e0
    cases e0
    have e1 := is1_int i1.one
    subst e1
    refine ⟨_, rfl, k1.1, fun q hq => ?_⟩
    obtain ⟨N, o⟩ := new_lst R1 (ds := rngD _ _) isL_rg hq
    exact k1.2 q _ O1 N (l1.trans (Rl.of_same (same_upd hq))) o
  · exact k1.elim
end
end DL

set_option Elab.async false
set_option linter.all false
set_option maxRecDepth 100000
/-! DL27: methods and classes of the top by facts; min with a default; len(set(..)). -/
namespace DL
open PySem PySem.Spec PySem.W PyProof.Rows L2
section
variable {fa : List He.Fa} {fn : List He.DefD} {K : PySem.W.Frag} {mg : Str → Option Value} {P : Program} {w : World} {base : Heap} {k : Nat} {ks : List AK} {fs : FS} {N ps : List Str} {g : GS}
theorem Wor.cls (W : Wor fa fn K mg) (i : Nat) {x : Str} (h : fa[i]? = some (.cls x) := by rfl) : Cls K (He.ga K x) := He.cls_ok (W.c.fact i h)
theorem Wor.noat (W : Wor fa fn K mg) (i : Nat) {x f : Str} (h : fa[i]? = some (.noat x f) := by rfl) : NoAttr K (He.ga K x) f := He.noat_ok (W.c.fact i h)
/-- a class's method: fn's i-th entry, facts i1 (the class), i2 (the method) -/
theorem Wor.meth_ (W : Wor fa fn K mg) (i i1 i2 : Nat) {C m q : Str} {st : Stmt} (S : FnScope N ps (defScope st)) (h : fn[i]? = some ⟨(C, some m), m, q, defArgs st, defBody st, defScope st, [], []⟩ := by rfl)
    (h1 : fa[i1]? = some (.cls C) := by rfl) (h2 : fa[i2]? = some (.meth C m) := by rfl) (hk : (AK.v :: ks).length = ps.length := by rfl)
    (hbd : ∀ (kV doc pm : Value) (an : Option Addr) (cdv ct : Value) (us : List Value), us.length = ps.length → bindArgs (PySem.W.fnOf m q (defArgs st) (defBody st) (defScope st) .none kV doc pm an cdv ct) ⟨us, []⟩ = pure (ps.zip us))
    (hmo : MonoF fs)
    (hbody : ∀ (f : Addr) (cdv : Value) (A : Around) (outer : List Env) (s : Shared) (H : Hp) (E : XK), Room k (A.deeper (envOfC q (defScope st) s.heap.objs.size f cdv)) → A.guards = some [] →
      DSs (cxOf (L2.CX P w) P w K mg base N q (defScope st) f cdv A outer s H E) (defBody st) g)
    (hfs : ∀ ds M Q X, fs ds M Q X → ds.length = (AK.v :: ks).length → g { nx := fun _ M' => Q .non M', rt := Q } (entry N.length (AK.v :: ks) ds X) M) : DefM P w K mg base (k + 1) (He.ga K C) m ks fs := by
  obtain ⟨fd, F⟩ := W.c.def_ i h
  have F1 : Fun K m q st (He.ma K (He.ga K C) m) fd := He5.fun_of F
  exact ⟨⟨_, fd, ps, d_fn F1 S hk (hbody _) hfs, W.cls i1 h1, He.meth_ok (W.c.fact i2 h2), F1.binds hbd⟩, hmo⟩
/-- its making: facts i1 (the class's name), i2 (that it is made so) -/
theorem Wor.init_ (W : Wor fa fn K mg) (i i1 i2 : Nat) {C q : Str} {st : Stmt} {Fk : Prop} (S : FnScope N ps (defScope st)) (h : fn[i]? = some ⟨(C, some "__init__"), "__init__", q, defArgs st, defBody st, defScope st, [], []⟩ := by rfl)
    (h1 : fa[i1]? = some (.glo C) := by rfl) (h2 : fa[i2]? = some (.mkr C) := by rfl) (hk : (AK.v :: ks).length = ps.length := by rfl)
    (hbd : ∀ (kV doc pm : Value) (an : Option Addr) (cdv ct : Value) (us : List Value), us.length = ps.length → bindArgs (PySem.W.fnOf "__init__" q (defArgs st) (defBody st) (defScope st) .none kV doc pm an cdv ct) ⟨us, []⟩ = pure (ps.zip us))
    (hmo : MonoF fs) (hF : Fk)
    (hbody : ∀ (f : Addr) (cdv : Value) (A : Around) (outer : List Env) (s : Shared) (H : Hp) (E : XK), Room k (A.deeper (envOfC q (defScope st) s.heap.objs.size f cdv)) → A.guards = some [] →
      DSs (cxOf (L2.CX P w) P w K mg base N q (defScope st) f cdv A outer s H E) (defBody st) g)
    (hfs : ∀ ds M Q X, fs ds M Q X → ds.length = (AK.v :: ks).length → g { nx := fun _ M' => Q .non M', rt := Q } (entry N.length (AK.v :: ks) ds X) M) : DefI P w K mg base (k + 1) C (He.ga K C) ks Fk fs := by
  obtain ⟨fd, F⟩ := W.c.def_ i h
  have F1 : Fun K "__init__" q st (He.ma K (He.ga K C) "__init__") fd := He5.fun_of F
  exact ⟨⟨_, fd, ps, d_fn F1 S hk (hbody _) hfs, He.mkr_ok (W.c.fact i2 h2), F1.binds hbd⟩, hmo, W.glo i1 h1, hF⟩
theorem tbl_nil {n : Nat} {m : Str} : ∀ q ∈ ([] : List (Addr × FS)), DefM P w K mg base n q.1 m ks q.2 := fun _ h => nomatch h
theorem tbl_cons {n : Nat} {m : Str} {C : Addr} {tbl : List (Addr × FS)} (h : DefM P w K mg base n C m ks fs) (t : ∀ q ∈ tbl, DefM P w K mg base n q.1 m ks q.2) : ∀ q ∈ (C, fs) :: tbl, DefM P w K mg base n q.1 m ks q.2 := fun q hq => by
  rcases List.mem_cons.mp hq with rfl | hq
  · exact h
  · exact t q hq
end
section
variable {X : Cx} {w p w1 w2 : Bool} {tg e a b : Expr} {es : List Expr} {g ga gb : GE} {gs : GA} {B : Addr → Prop} {E : En} {σ : L2.St} {H H' : Hp} {r : DL.Fr} {M M' : Mem} {O O' : Own} {pos pos' : Pos}
/-! ### min(xs, default=d) -/
theorem reads_ints {h : Heap} : ∀ {vs : List Value} {ns : List Int}, IntsAre vs ns → ∃ as, ReadsAll h vs (ns.map PyData.int) as
  | _, _, .nil => ⟨_, .nil⟩
  | _, _, .cons n t r => by
    obtain ⟨as, q⟩ := reads_ints (h := h) r
    exact ⟨_, .cons (.int n t) q⟩
def rMinD (K : PySem.W.Frag) : List V → List V → Hp → VK → Prop := fun xs zs H Q => ∃ (a : Addr) (ns : List Int) (d : V), xs = [.ref a] ∧ zs = [d] ∧ (SqL K H a (ns.map V.int) ∨ SqT K H a (ns.map V.int)) ∧
  (ns = [] → Q d H) ∧ (ns ≠ [] → ∀ m, m ∈ ns → (∀ y ∈ ns, m ≤ y) → Q (.int m) H)
theorem cr_minD (hc : X.calm = true) (hu : X.A.units + 1 < cLine) : CallRK X (.builtin "min") [Str.ofString "default"] (rMinD X.K) := by
  intro pins s σ H xs zs us ws Q I rx rz h
  obtain ⟨a, ns, d, rfl, rfl, hs, q0, q1⟩ := h
  obtain ⟨u, rfl, ru⟩ := vals1 rx
  obtain ⟨z, rfl, rd⟩ := vals1 rz
  cases ru
  have fin0 : ns.map PyData.int = [] → ∀ h' tk, (∀ b o, s.heap.get? b = some o → h'.get? b = some o) → EP X pins σ Q z { s with heap := h', toks := tk } := fun e h' tk k => ⟨d, H, I.kept (t' := tk) k, rd, q0 (by simpa using e)⟩
  have fin1 : ∀ (y : PyData) (ys : List PyData) (v : Value) (h' : Heap) (tk : Nat) (bs : List Addr), ns.map PyData.int = y :: ys → Reads h' v (minD y ys) bs → (∀ b o, s.heap.get? b = some o → h'.get? b = some o) → EP X pins σ Q v { s with heap := h', toks := tk } := fun y ys v h' tk bs e rv k => by
    cases ns with
    | nil => cases e
    | cons n ns =>
      injection e with e1 e2
      subst e1 e2
      rw [minD_ints] at rv
      obtain ⟨h1, h2⟩ := foldmin ns n
      cases rv
      exact ⟨.int (ns.foldl min n), H, I.kept (t' := tk) k, ⟨_, rfl⟩, q1 (by simp) _ h1 h2⟩
  rcases hs with hs | hs
  · obtain ⟨its, r, pl, hz⟩ := I.list hs
    obtain ⟨as, rd⟩ := reads_ints (h := s.heap) (L2.intsAre_of r)
    exact min_list_default (I.ok.hd hc) pl.isList (by simpa using rd) (alike_ints ns) (by rw [depth_ints]; exact hu) fin0 fun y ys i v h' tk bs e _ rv k => fin1 y ys v h' tk bs e rv k
  · obtain ⟨its, r, pl, hz⟩ := I.tuple hs
    obtain ⟨as, rd⟩ := reads_ints (h := s.heap) (L2.intsAre_of r)
    exact min_tuple_default (I.ok.hd hc) (show s.heap.IsTuple a its.toArray from pl) (by simpa using rd) (alike_ints ns) (by rw [depth_ints]; exact hu) fin0 fun y ys i v h' tk bs e _ rv k => fin1 y ys v h' tk bs e rv k
/-- least of them, or d -/
def mnD (ns : List Int) (d : Int) : Int := if ns = [] then d else mn ns
def minDK (x y : D) (k : D → Prop) : Prop := match x, y with
  | .lst xs, .int d => ∃ ns, intsOf xs = some ns ∧ k (.int (mnD ns d))
  | .tup xs, .int d => ∃ ns, intsOf xs = some ns ∧ k (.int (mnD ns d))
  | _, _ => False
theorem minDK_lst {ns : List Int} {d : Int} {k : D → Prop} : minDK (.lst (ns.map .int)) (.int d) k = k (.int (mnD ns d)) := by
  show (∃ ms, intsOf (ns.map D.int) = some ms ∧ k (.int (mnD ms d))) = _
  rw [intsOf_map]
  exact propext ⟨fun ⟨ms, e, q⟩ => by cases e; exact q, fun q => ⟨ns, rfl, q⟩⟩
theorem minDK_mono {x y : D} {k k' : D → Prop} (h : ∀ d, k d → k' d) (q : minDK x y k) : minDK x y k' := by
  unfold minDK at q ⊢
  split at q
  · exact ⟨_, q.choose_spec.1, h _ q.choose_spec.2⟩
  · exact ⟨_, q.choose_spec.1, h _ q.choose_spec.2⟩
  · exact q.elim
def gMinD (ga gb : GE) : GE := fun r M Q => ga r M fun x M1 => gb r M1 fun y M2 => minDK x y fun d => Q d M2
theorem de_minD {x : Str} {pf kp : Pos} (hc : X.calm = true) (hu : X.A.units + 1 < cLine) (hx : x = "min" := by rfl) (hg : Gl X x) (hm : X.mg x = none) (ha : DE true p X a ga) (hb : DE true p X b gb)
    (he : backTo pos (starEach [a] X.env) = (false, eval a X.env) :: backTo pos (starEach [] X.env) := by rfl) (he2 : starEach [a] X.env = (false, eval a X.env) :: starEach [] X.env := by rfl) (hpl : (backTo pos (starEach [a] X.env)).any (·.1) = false := by rfl)
    (hall : (backToKw pos (keywordEach [⟨some "default", b, kp⟩] X.env)).all (·.1.isSome) = true := by rfl) (hnone : (backToKw pos (keywordEach [⟨some "default", b, kp⟩] X.env)).any (·.1.isNone) = false := by rfl) (hks : (backToKw pos (keywordEach [⟨some "default", b, kp⟩] X.env)).filterMap (·.1) = [Str.ofString "default"] := by rfl) :
    DE true p X (.Call (.Name x pf) [a] [⟨some "default", b, kp⟩] pos) (gMinD ga gb) := by
  subst hx
  refine ⟨peI (pe_callBK (cr_minD hc hu) hg hm boot_min (da_one ha he2).run (pk_cons hb.run pk_nil) (by decide) (by decide) he hpl hall hnone hks) fun σ H Q ⟨B, E, r, M, O, R, q⟩ => ?_,
    fun r M Q Q' h q => ha.mono _ _ _ _ (fun x M1 q1 => hb.mono _ _ _ _ (fun y M2 q2 => minDK_mono (fun _ q3 => h _ _ q3) q2) q1) q⟩
  refine (da_one ha he2).on R (k := fun zs M2 => ∃ z, zs = [z] ∧ gb r M2 fun y M3 => minDK z y fun d => LE true p X B E σ r H M O Q d M3) (ha.mono _ _ _ _ (fun z M2 q1 => ⟨z, rfl, q1⟩) q) fun zs M1 vs H1 O1 k1 R1 l1 i1 => ?_
  obtain ⟨z, rfl, k1⟩ := k1
  refine hb.on R1 k1 fun y M2 u H2 O2 k2 R2 l2 i2 => ?_
  have i3 := isXL_strong i1
  cases i3 with
  | @cons v _ _ _ iv t =>
    cases t
    have iv2 : Is X.K (Av B M2 O2) H2 v z := Is.step l2.avs iv
    have fin : ∀ (ns : List Int) (d : Int), (LE true p X B E σ r H M O Q (.int (mnD ns d)) M2) → (ns = [] → Q (.int d) H2) ∧ (ns ≠ [] → ∀ m, m ∈ ns → (∀ y ∈ ns, m ≤ y) → Q (.int m) H2) := fun ns d q => by
      refine ⟨fun e => ?_, fun e m h1 h2 => ?_⟩
      · subst e
        exact fin_v R2 (.int _) (LE.go (l1.trans l2) q)
      · have e2 : mnD ns d = m := by unfold mnD; rw [if_neg e]; exact (mn_eq h1 h2).symm
        rw [e2] at q
        exact fin_v R2 (.int _) (LE.go (l1.trans l2) q)
    unfold minDK at k2
    split at k2
    · obtain ⟨ns, en, k3⟩ := k2
      have e2 := is1_int i2.one
      subst e2
      cases iv2 with
      | @lst l vs2 _ h l3 =>
        rw [of_intsOf l3 en] at h
        exact ⟨l, ns, _, rfl, rfl, .inl (SqL.of h.2), fin ns _ k3⟩
    · obtain ⟨ns, en, k3⟩ := k2
      have e2 := is1_int i2.one
      subst e2
      cases iv2 with
      | @tup l vs2 _ h l3 =>
        rw [of_intsOf l3 en] at h
        exact ⟨l, ns, _, rfl, rfl, .inr h.sq, fin ns _ k3⟩
    · exact k2.elim
end
end DL

set_option Elab.async false
set_option linter.all false
set_option maxRecDepth 100000
/-! DL28: len(set(..)) of ints; lists and tuples that are lent or stand in memory. -/
namespace DL
open PySem PySem.Spec PySem.W PyProof.Rows L2
section
variable {X : Cx} {w p w1 w2 : Bool} {tg e a b : Expr} {es : List Expr} {g ga gb : GE} {gs : GA} {B : Addr → Prop} {E : En} {σ : L2.St} {H H' : Hp} {r : DL.Fr} {M M' : Mem} {O O' : Own} {pos pos' : Pos}
/-! ### len(set(xs)) -/
def SameSet (L ns : List Int) : Prop := L.Nodup ∧ ∀ k, k ∈ L ↔ k ∈ ns
theorem SameSet.len {L ns : List Int} (h : SameSet L ns) (hn : ns.Nodup) : L.length = ns.length := ((List.perm_ext_iff_of_nodup h.1 hn).mpr h.2).length_eq
theorem dedup_nodup : ∀ (ns acc : List Int), acc.Nodup → (ns.foldl PyProof.Rows.step_dedup acc).Nodup
  | [], acc, h => h
  | n :: ns, acc, h => by
    refine dedup_nodup ns _ ?_
    unfold PyProof.Rows.step_dedup
    split
    · exact h
    · rename_i hn
      rw [List.nodup_append]
      refine ⟨h, by simp, fun a ha b hb e => hn ?_⟩
      rw [List.mem_singleton.mp hb] at e
      subst e
      exact List.any_eq_true.mpr ⟨_, ha, by simp⟩
theorem firstMet_same (ns : List Int) : SameSet (PyProof.Rows.firstMet (fun i => ns.getD i 0) ns.length) ns := by
  have e : (List.range ns.length).map (fun i => ns.getD i 0) = ns := by
    refine List.ext_getElem (by simp) fun i h1 h2 => ?_
    rw [List.getElem_map, List.getElem_range, List.getD_eq_getElem?_getD, List.getElem?_eq_getElem h2]
    rfl
  refine ⟨dedup_nodup _ _ List.nodup_nil, fun k => ?_⟩
  have h := PyProof.Rows.firstMet_any (fun i => ns.getD i 0) ns.length k
  rw [e] at h
  constructor
  · intro hk
    have h2 : (PyProof.Rows.firstMet (fun i => ns.getD i 0) ns.length).any (· == k) = true := List.any_eq_true.mpr ⟨k, hk, by simp⟩
    rw [h] at h2
    obtain ⟨x, hx, ex⟩ := List.any_eq_true.mp h2
    rw [← eq_of_beq ex]
    exact hx
  · intro hk
    have h2 : ns.any (· == k) = true := List.any_eq_true.mpr ⟨k, hk, by simp⟩
    rw [← h] at h2
    obtain ⟨x, hx, ex⟩ := List.any_eq_true.mp h2
    rw [← eq_of_beq ex]
    exact hx
def tLenSetA (K : PySem.W.Frag) (ta : TE) : TE := fun σ H Q => ta σ H fun x H1 => ∃ (l : Addr) (ns : List Int), x = .ref l ∧ ns.length ≤ 4000 ∧
  ((SqL K H1 l (ns.map V.int) ∧ ∀ L, SameSet L ns → Q (.int (L.length : Nat)) H1) ∨ (SqT K H1 l (ns.map V.int) ∧ ∀ L, SameSet L ns → Q (.int (L.length : Nat)) H1))
theorem pe_lenSetA {ta : TE} {pf p2 q : Pos} (hg : Gl X "len") (hm : X.mg "len" = none) (hg2 : Gl X "set") (hm2 : X.mg "set" = none) (ha : PE X a ta) (hc : X.calm = true)
    (na : starEach [a] X.env = (false, eval a X.env) :: starEach [] X.env := by rfl) : PE X (.Call (.Name "len" pf) [.Call (.Name "set" p2) [a] [] q] [] pos) (tLenSetA X.K ta) := by
  refine ⟨fun pins s σ H Q I h => ?_⟩
  refine Call_ (ld_blt I hg hm boot_len ?_)
  refine PyProof.Rows.callWith_builtin1 (PyProof.Rows.args_cons ?_ rfl) rfl rfl
  refine Call_ (ld_blt I hg2 hm2 boot_set ?_)
  refine PyProof.Rows.callWith_type1 (PyProof.Rows.args_cons (thn (ha.run pins s σ H _ I h) fun v s1 ⟨x, H1, I1, r1, q1⟩ => PyProof.Rows.args_nil ?_) na) na rfl
  obtain ⟨l, ns, rfl, hl, q1⟩ := q1
  cases r1
  rcases q1 with ⟨hq, q1⟩ | ⟨hq, q1⟩
  · obtain ⟨its, r, pl, hz⟩ := I1.list hq
    have hlen : its.toArray.size = ns.length := by rw [List.size_toArray, ← r.length, List.length_map]
    refine call_set_list (I1.ok.hd hc) pl.isList (by simpa using RZ.intsAre_vals r) (by rw [hlen]; unfold scanBound; omega) fun h' tk hS hk => ?_
    refine PyProof.Rows.args_nil ?_
    rw [hlen] at hS
    have hsame := firstMet_same ns
    obtain ⟨o, es, ep, t, ho, hex, hd, _, _, _, hf, hn⟩ := hS
    have hle : (PyProof.Rows.firstMet (fun i => ns.getD i 0) ns.length).length ≤ ns.length := PyProof.Rows.firstMet_length_le _ _
    have I2 : Inv X pins σ H1 { s1 with heap := h', toks := tk } := I1.kept fun b o e => hk b o (Heap.lt_size e) e
    exact call_len_set ho hex hd hf (by rw [hn] <;> omega) ⟨.int (PyProof.Rows.firstMet (fun i => ns.getD i 0) ns.length).length, H1, I2.tok _, ⟨_, by rw [hn]⟩, q1 _ hsame⟩
  · obtain ⟨its, r, pl, hz⟩ := I1.tuple hq
    refine call_set_tupI ns (I1.ok.hd hc) (show s1.heap.IsTuple l its.toArray from pl) (by simpa using L2.intsAre_of r) (by unfold scanBound; omega) fun h' tk c hS hcn hk => ?_
    refine PyProof.Rows.args_nil ?_
    obtain ⟨o, es, ep, t, ho, hex, hd, _, hnd, hmem, hlt, hf, hn, _, _⟩ := hS
    have I2 : Inv X pins σ H1 { s1 with heap := h', toks := tk } := I1.kept hk
    have hle : (es.toList.map keyOf).length = c := by rw [List.length_map, Array.length_toList]; exact hn
    exact call_len_set ho hex hd hf (by rw [hn] <;> omega) ⟨.int (es.toList.map keyOf).length, H1, I2.tok _, ⟨_, by rw [hle, hn]⟩, q1 _ ⟨hnd, fun k => by rw [← hmem k, decide_eq_true_eq]⟩⟩
/-- how many different ones -/
def lenSetK (x : D) (k : D → Prop) : Prop := match x with
  | .lst xs => ∃ ns, intsOf xs = some ns ∧ ns.length ≤ 4000 ∧ ∀ L, SameSet L ns → k (.int (L.length : Nat))
  | .tup xs => ∃ ns, intsOf xs = some ns ∧ ns.length ≤ 4000 ∧ ∀ L, SameSet L ns → k (.int (L.length : Nat))
  | _ => False
theorem lenSetK_lst {ns : List Int} {k : D → Prop} : lenSetK (.lst (ns.map .int)) k = (ns.length ≤ 4000 ∧ ∀ L, SameSet L ns → k (.int (L.length : Nat))) := by
  show (∃ ms, intsOf (ns.map D.int) = some ms ∧ _) = _
  rw [intsOf_map]
  exact propext ⟨fun ⟨ms, e, q⟩ => by cases e; exact q, fun q => ⟨ns, rfl, q⟩⟩
theorem lenSetK_tup {ns : List Int} {k : D → Prop} : lenSetK (.tup (ns.map .int)) k = (ns.length ≤ 4000 ∧ ∀ L, SameSet L ns → k (.int (L.length : Nat))) := by
  show (∃ ms, intsOf (ns.map D.int) = some ms ∧ _) = _
  rw [intsOf_map]
  exact propext ⟨fun ⟨ms, e, q⟩ => by cases e; exact q, fun q => ⟨ns, rfl, q⟩⟩
theorem lenSetK_mono {x : D} {k k' : D → Prop} (h : ∀ d, k d → k' d) (q : lenSetK x k) : lenSetK x k' := by
  unfold lenSetK at q ⊢
  split at q
  · obtain ⟨ns, q1, q2, q3⟩ := q
    exact ⟨ns, q1, q2, fun L hL => h _ (q3 L hL)⟩
  · obtain ⟨ns, q1, q2, q3⟩ := q
    exact ⟨ns, q1, q2, fun L hL => h _ (q3 L hL)⟩
  · exact q.elim
def gLenSet (ga : GE) : GE := fun r M Q => ga r M fun x M1 => lenSetK x fun d => Q d M1
theorem de_lenSet {pf p2 q : Pos} (hc : X.calm = true) (hg : Gl X "len") (hm : X.mg "len" = none) (hg2 : Gl X "set") (hm2 : X.mg "set" = none) (ha : DE w p X a ga)
    (na : starEach [a] X.env = (false, eval a X.env) :: starEach [] X.env := by rfl) : DE true p X (.Call (.Name "len" pf) [.Call (.Name "set" p2) [a] [] q] [] pos) (gLenSet ga) := by
  refine ⟨peI (pe_lenSetA hg hm hg2 hm2 ha.run hc na) fun σ H Q ⟨B, E, r, M, O, R, q⟩ => ?_, fun r M Q Q' h q => ha.mono _ _ _ _ (fun x M1 q1 => lenSetK_mono (fun _ q3 => h _ _ q3) q1) q⟩
  refine ha.on R q fun d M1 v H1 O1 k1 R1 l1 i1 => ?_
  have i2 := i1.one
  unfold lenSetK at k1
  split at k1
  · obtain ⟨ns, en, k2, k3⟩ := k1
    obtain ⟨l, vs, rfl, h1, l3⟩ := i2
    rw [of_intsOf l3 en] at h1
    exact ⟨l, ns, rfl, k2, .inl ⟨SqL.of h1, fun L hL => fin_v R1 (.int _) (LE.go l1 (k3 L hL))⟩⟩
  · obtain ⟨ns, en, k2, k3⟩ := k1
    obtain ⟨l, vs, rfl, h1, l3⟩ := i2
    rw [of_intsOf l3 en] at h1
    exact ⟨l, ns, rfl, k2, .inr ⟨h1.sq, fun L hL => fin_v R1 (.int _) (LE.go l1 (k3 L hL))⟩⟩
  · exact k1.elim
end
end DL

set_option Elab.async false
set_option linter.all false
set_option maxRecDepth 100000
/-! DL29: lists in memory, and lent ones, gone through; their index. -/
namespace DL
open PySem PySem.Spec PySem.W PyProof.Rows L2
section
variable {X : Cx} {w p w1 w2 : Bool} {tg e a b o iter elt : Expr} {es : List Expr} {g ga gb go ge : GE} {gs : GA} {B : Addr → Prop} {E : En} {σ : L2.St} {H H' : Hp} {r : DL.Fr} {M M' : Mem} {O O' : Own} {pos pos' apos cpos : Pos} {gi : GI} {gt : GG} {gtt : GT} {ifs : List Expr} {scope : Scope} {own : List (Str × Nat)} {ws : List Nat}
/-- a list or a tuple that a slot holds, lent or not -/
def giBA (i : Nat) : GI := fun r M Q => match r.sl[i]? with
  | some (.b _ ds) => Q ds M
  | some (.v (.lst ds)) => Q ds M
  | some (.v (.tup ds)) => Q ds M
  | _ => False
theorem di_lent (i : Nat) {x : Str} (hN : X.N[i]? = some x := by rfl) (hv : Vis X.env.scope x := by first | exact Or.inl rfl | exact Or.inr (Or.inl rfl) | exact Or.inr (Or.inr rfl)) (hd : (x == ("__debug__" : Str)) = false := by decide)
    (hcd : (x == ("__classdict__" : Str)) = false := by decide) : DI p X tg (.Name x pos) (giBA i) where
  ex := ⟨_, pi_seq (pe_var hN hv hd hcd), fun B E σ H r M O k R' R q hR => by
    unfold giBA at q
    split at q
    · rename_i kk ds er
      obtain ⟨x, e1, a, vs, e2, h, l⟩ := R.slot er
      subst e2
      cases kk with
      | false => exact ⟨_, e1, a, vs, rfl, .inl ⟨SqL.of (show LstAt _ H a vs from h).2, hR _ M H O _ q R Rl.refl (walk_lst h l)⟩⟩
      | true => exact ⟨_, e1, a, vs, rfl, .inr ⟨(show TupAt _ _ H a vs from h).sq, hR _ M H O _ q R Rl.refl (walk_tup h l)⟩⟩
    · rename_i ds er
      obtain ⟨x, e1, v, e2, i1⟩ := R.slot er
      subst e2
      cases i1 with
      | @lst a vs _ h l => exact ⟨_, e1, a, vs, rfl, .inl ⟨SqL.of h.2, hR _ M H O _ q R Rl.refl (walk_lst (lst_mut h) l)⟩⟩
    · rename_i ds er
      obtain ⟨x, e1, v, e2, i1⟩ := R.slot er
      subst e2
      cases i1 with
      | @tup a vs _ h l => exact ⟨_, e1, a, vs, rfl, .inr ⟨h.sq, hR _ M H O _ q R Rl.refl (walk_tup (tup_mut h) l)⟩⟩
    · exact q.elim⟩
  mono := fun r M Q Q' h q => by
    unfold giBA at q ⊢
    split at q
    · exact h _ _ q
    · exact h _ _ q
    · exact h _ _ q
    · exact q.elim
/-! ### a list in memory, gone through while nothing is changed -/
structure DIM (X : Cx) (tg iter : Expr) (gi : GI) : Prop where
  ex : ∃ wi, PI X tg iter wi ∧ ∀ B E σ H r M O k R', Rep X B E σ H r M O → gi r M k → (∀ ds M1 H1 O1 J, k ds M1 → Rep X B E σ H1 r M1 O1 → Rl true M O H M1 O1 H1 → WalkQ true X B H1 M1 O1 J ds → R' J H1) → wi σ H R'
  mono : ∀ r M Q Q', (∀ d M', Q d M' → Q' d M') → gi r M Q → gi r M Q'
def giMem (go : GE) : GI := fun r M Q => go r M fun d M1 => mlK d M1 fun _ ds => Q ds M1
theorem di_mem (ho : DE w true X o go) : DIM X tg o (giMem go) where
  ex := ⟨_, pi_seq ho.run, fun B E σ H r M O k R' R q hR => by
    refine ho.on R q fun d M1 v H1 O1 k1 R1 l1 i1 => ?_
    unfold mlK at k1
    split at k1
    · rename_i l
      have := is1_ref i1.one
      subst this
      split at k1
      · rename_i ds em
        obtain ⟨_, _, vs, e1, e2⟩ := R1.m.mem _ _ em
        refine ⟨l, vs, rfl, .inl ⟨SqL.of e1, hR _ M1 H1 O1 _ k1 R1 l1 ?_⟩⟩
        intro A U H2 fA sA s sm i
        have h2 : H2 l = some (.lst vs) := sm rfl _ _ e1
        have l' := e2.step sA
        refine ⟨fun d hd => ?_, fun hle => ⟨vs, SqL.of h2, by rw [l'.length]; exact hle⟩⟩
        obtain ⟨v, hv, iv⟩ := l'.get hd
        refine ⟨⟨vs, v, SqL.of h2, hv⟩, fun x H' ⟨e1, e2⟩ => ?_⟩
        subst e1
        have e3 := e2 vs (SqL.of h2)
        rw [hv] at e3
        cases e3
        exact ⟨Same.refl _, iv⟩
      · exact k1.elim
    · exact k1.elim⟩
  mono := fun r M Q Q' h q => ho.mono _ _ _ _ (fun d M1 q1 => mlK_mono (fun _ _ q2 => h _ _ q2) q1) q
theorem df_compM (hc : X.calm = true) (hN : X.N.Nodup) (hi : DIM X tg iter gi) (ok : BlkOk X.N X.env.scope scope own)
    (hg : ∀ (s : Shared) (H : Hp) (C : Addr) (cl : List (Str × Addr)) (fp : List Addr), DT' (X.blk s H scope (compEnvC scope cl C X.env) fp) tg ws gt)
    (ht : ∀ (s : Shared) (H : Hp) (C : Addr) (cl : List (Str × Addr)) (fp : List Addr), DTts true (X.blk s H scope (compEnvC scope cl C X.env) fp) ifs gtt)
    (he : ∀ (s : Shared) (H : Hp) (C : Addr) (cl : List (Str × Addr)) (fp : List Addr), DE true true (X.blk s H scope (compEnvC scope cl C X.env) fp) elt ge)
    (hws : ∀ j ∈ ws, j ∈ own.map (·.2) := by decide) (hs : ∀ x, foldedSetIterable iter X.env x = pure x := by intro _; rfl) : DF true X (.ListComp elt [⟨tg, iter, ifs, 0⟩] scope pos) (gLc gi gt gtt ge (own.map (·.2))) := by
  have hgm := (hg X.s_0 X.H_0 0 [] []).p.mono
  have htm := (ht X.s_0 X.H_0 0 [] []).mono
  have hem := (he X.s_0 X.H_0 0 [] []).mono
  have hgs := (hg X.s_0 X.H_0 0 [] []).s
  obtain ⟨wi, hpi, hwi⟩ := hi.ex
  exact ⟨peI (pe_lc (te := uE true X.K ge) (tt := uT true X.K gtt) (g := uG X.K ws gt) hc hN hpi ok (fun s H C cl fp => (hg s H C cl fp).u) (fun s H C cl fp => (ht s H C cl fp).u) (fun s H C cl fp => (he s H C cl fp).u) hs) (lc_imp hwi hgm htm hem hgs hws),
    fun r M Q Q' h q => ⟨q.1, hi.mono _ _ _ _ (fun ds M1 q1 => lcD_mono hgm htm hem ds _ _ _ _ (fun a M' q2 => h _ _ q2) q1) q.2⟩⟩
/-! ### o.index(e), o a list in memory -/
def ixM (ds : List D) (z : D) (k : Nat → Prop) : Prop := (D.ok (.lst ds) = true ∧ z.ok = true) ∧ match ixD ds z 0 with
  | some j => k j
  | none => False
theorem ixM_mono {ds : List D} {z : D} {k k' : Nat → Prop} (h : ∀ j, k j → k' j) (q : ixM ds z k) : ixM ds z k' := by
  refine ⟨q.1, ?_⟩
  have q2 := q.2
  split at q2
  · exact h _ q2
  · exact q2
def gMIdx (go ge : GE) : GE := fun r M Q => go r M fun d M1 => mlK d M1 fun l _ => ge r M1 fun z M2 => mlK (.ref l) M2 fun _ ds => ixM ds z fun j => Q (.int (j : Nat)) M2
theorem de_mindex {nm : Str} (hnm : nm = "index" := by rfl) (hu : X.A.units + 65 < cLine) (ho : DE w1 p X o go) (he : DE true p X e ge)
    (hbase : attributeBase o "index" X.env (eval o X.env) = eval o X.env := by rfl)
    (hfew : ((backTo cpos (starEach [e] X.env)).all (fun x => !x.1) && (backToKw cpos (keywordEach [] X.env)).all (fun x => x.1.isSome)
      && decide ([e].length + ([] : List Keyword).length + (if ([] : List Keyword).isEmpty then 0 else 1) < 30)) = true := by rfl)
    (hline : (apos.endLine == cpos.line) = true := by rfl) (hs : starEach [e] X.env = (false, eval e X.env) :: starEach [] X.env := by rfl) (hplain : (backTo cpos (starEach [] X.env)).any (·.1) = false := by rfl) :
    DE true p X (.Call (.Attribute o nm apos) [e] [] cpos) (gMIdx go ge) := by
  subst hnm
  refine ⟨peI (pe_bm PySem.F.plainAttrs_list PySem.F.slot_list_index PySem.F.type_list_index (mt_indexD hu) ho.run (da_one he hs).run hbase hfew hline hs hplain) fun σ H Q ⟨B, E, r, M, O, R, q⟩ => ?_,
    fun r M Q Q' h q => ho.mono _ _ _ _ (fun d M1 q1 => mlK_mono (fun l _ q2 => he.mono _ _ _ _ (fun z M2 q3 => mlK_mono (fun _ ds q4 => ixM_mono (fun _ q5 => h _ _ q5) q4) q3) q2) q1) q⟩
  refine ho.on R q fun d M1 v H1 O1 k1 R1 l1 i1 => ?_
  unfold mlK at k1
  split at k1
  · rename_i l
    have := is1_ref i1.one
    subst this
    split at k1
    · rename_i ds em
      obtain ⟨_, _, vs, e1, e2⟩ := R1.m.mem _ _ em
      refine ⟨.inl ⟨rfl, vs, SqL.of e1⟩, ?_⟩
      refine (da_one he hs).on R1 (k := fun zs M2 => ∃ z, zs = [z] ∧ mlK (.ref l) M2 fun _ ds => ixM ds z fun j => LE true p X B E σ r H M O Q (.int (j : Nat)) M2) (he.mono _ _ _ _ (fun z M2 q1 => ⟨z, rfl, q1⟩) k1) fun zs M2 us H2 O2 k2 R2 l2 i2 => ?_
      obtain ⟨z, rfl, k2⟩ := k2
      have i3 := isXL_strong i2
      cases i3 with
      | @cons u _ us' _ iu t =>
        cases t
        rw [mlK_ref] at k2
        split at k2
        · rename_i ds2 em2
          obtain ⟨_, _, vs2, f1, f2⟩ := R2.m.mem _ _ em2
          obtain ⟨⟨ok1, ok2⟩, k3⟩ := k2
          split at k3
          · rename_i j ej
            obtain ⟨_, ⟨y, hy, hye⟩, hno⟩ := ixD_spec ej
            have iL : Is X.K (fun b => Av B M2 O2 b ∧ b ≠ l) H2 (.ref l) (.lst ds2) := .lst ⟨fun z => z.2 rfl, f1⟩ (f2.step (step_id fun b _ n z => n z.1))
            refine ⟨l, u, z.py, D.pyL ds2, j, y.py, rfl, rfl, iL.dp (ok_and ok1).1, iu.dp (ok_and ok2).1, (ok_and ok1).2, (ok_and ok2).2, pyL_get' hy, hye, fun m z' hm hz' => ?_, fin_v R2 (.int _) fun v3 H3 O3 R3 l4 i3 => k3 v3 H3 O3 R3 ((l1.trans l2).trans l4.weak) i3⟩
            obtain ⟨y2, hy2, rfl⟩ := pyL_get hz'
            exact hno m y2 (by omega) hy2
          · exact k3.elim
        · exact k2.elim
    · exact k1.elim
  · exact k1.elim
end
end DL

set_option Elab.async false
set_option linter.all false
set_option maxRecDepth 100000
/-! DL30: a written dict of the top: its keys. -/
namespace DL
open PySem PySem.Spec PySem.W PyProof.Rows L2
/-- a table of the top, by name -/
structure Tb (w : World) (K : PySem.W.Frag) (mg : Str → Option Value) (x : Str) (ks : List Str) : Prop where
  g : mg x = some (.ref (He.ga K x))
  d : He.dicW K (He.ga K x) = some (He.keysIn w.params ks)
theorem Tb.kd {w : World} {K : PySem.W.Frag} {mg : Str → Option Value} {x : Str} {ks : List Str} (T : Tb w K mg x ks) : ∃ es n, KDict K w (He.ga K x) es n := He.dicW_ok T.d
theorem keys_find {P : Params} (z : Str) : ∀ {l : List DictEntry} {ks : List Str}, l.map He.keyOf = He.keysIn P ks → (l.find? (·.key.isStr z)).isSome = decide (z ∈ ks) ∧ l.any (·.refKey) = false
  | [], [], _ => ⟨rfl, rfl⟩
  | [], _ :: _, h => by cases h
  | _ :: _, [], h => by cases h
  | e :: l, k :: ks, h => by
    injection (show He.keyOf e :: l.map He.keyOf = some (k, PyData.keyHash P k) :: He.keysIn P ks from h) with h1 h2
    obtain ⟨i1, i2⟩ := keys_find z h2
    have ek : ∃ t, e.key = .str k t := by
      unfold He.keyOf at h1
      split at h1
      · rename_i x t q
        have h4 := (Prod.mk.inj (Option.some.inj h1)).1
        rw [← h4]
        exact ⟨t, q⟩
      · cases h1
    obtain ⟨t, ek⟩ := ek
    have e1 : e.key.isStr z = decide (z = k) := by
      rw [ek, PySem.W.isStr_of]
      show (k == z) = _
      by_cases q : z = k
      · subst q; simp
      · have : (k == z) = false := by simpa using fun h => q h.symm
        rw [this, decide_eq_false q]
    have e2 : e.refKey = false := by
      unfold DictEntry.refKey
      rw [ek]
    refine ⟨?_, by rw [List.any_cons, e2, i2]; rfl⟩
    rw [List.find?_cons, e1]
    by_cases q : z = k
    · subst q; simp
    · rw [decide_eq_false q]
      show (l.find? _).isSome = _
      rw [i1]
      simp [q]
theorem Tb.at_ {w : World} {K : PySem.W.Frag} {mg : Str → Option Value} {x : Str} {ks : List Str} (T : Tb w K mg x ks) (z : Str) : ∃ r, PySem.W.nsIn K (He.ga K x) z = some r ∧ r.isSome = decide (z ∈ ks) := by
  have h := T.d
  unfold He.dicW at h
  cases q : K.lookup (He.ga K x) with
  | none => rw [q] at h; cases h
  | some o =>
    obtain ⟨oc, od, dt, osl⟩ := o
    rw [q] at h
    cases oc with
    | type c =>
      cases od with
      | none =>
        cases dt with
        | dict es n =>
          have h1 : (match decide (c = "dict") && (osl.isEmpty && !(He.ga K x == sysModules)) with
            | true => some (es.toList.map He.keyOf)
            | false => none) = some (He.keysIn w.params ks) := h
          split at h1
          · obtain ⟨f1, f2⟩ := keys_find z (Option.some.inj h1)
            unfold PySem.W.nsIn
            rw [q]
            dsimp only
            cases fd : es.toList.find? (·.key.isStr z) with
            | none =>
              rw [fd] at f1
              rw [f2]
              exact ⟨none, rfl, f1⟩
            | some e =>
              rw [fd] at f1
              exact ⟨some e.val, rfl, f1⟩
          · cases h1
        | _ => cases h
      | some b => cases dt <;> cases h
    | _ => cases od <;> cases dt <;> cases h
section
variable {X : Cx} {p : Bool} {x : Str} {ks : List Str} {pos : Pos}
theorem dg_tab (T : Tb X.w X.K X.mg x ks) (hg : Gl X x := by rfl) (hd : (x == ("__debug__" : Str)) = false := by decide) : DE true p X (.Name x pos) (gC (.ref (He.ga X.K x))) :=
  de_glob (v := .ref _) hg T.g rfl (fun _ _ => .ref _) hd
def goTab (a : Addr) (ks : List Str) (neg : Bool) : GO := fun d e M Q => match d, e with
  | .str z, .ref b => b = a ∧ Q (.bl (if neg = true then !decide (z ∈ ks) else decide (z ∈ ks))) M
  | _, _ => False
theorem goTab_mono {a : Addr} {neg : Bool} : ∀ d e M Q Q', (∀ d M', Q d M' → Q' d M') → goTab a ks neg d e M Q → goTab a ks neg d e M Q' := fun d e M Q Q' h q => by
  unfold goTab at q ⊢
  split at q
  · exact ⟨q.1, h _ _ q.2⟩
  · exact q.elim
theorem od_inTab (T : Tb X.w X.K X.mg x ks) : OpD X (compareOp .In) (goTab (He.ga X.K x) ks false) := by
  obtain ⟨es, n, D⟩ := T.kd
  refine ⟨⟨_, op_in_kd D, fun B E σ H r M O x1 y d e Q R i1 i2 q => ?_⟩, goTab_mono⟩
  unfold goTab at q
  split at q
  · rename_i z b
    obtain ⟨rfl, q⟩ := q
    obtain ⟨r, e1, e2⟩ := T.at_ z
    refine ⟨z, r, is1_str i1, is1_ref i2, e1, ?_⟩
    rw [e2]
    exact fin_v R (.bl _) q
  · exact q.elim
theorem od_notinTab (T : Tb X.w X.K X.mg x ks) : OpD X (compareOp .NotIn) (goTab (He.ga X.K x) ks true) := by
  obtain ⟨es, n, D⟩ := T.kd
  refine ⟨⟨_, op_notIn_kd D, fun B E σ H r M O x1 y d e Q R i1 i2 q => ?_⟩, goTab_mono⟩
  unfold goTab at q
  split at q
  · rename_i z b
    obtain ⟨rfl, q⟩ := q
    obtain ⟨r, e1, e2⟩ := T.at_ z
    refine ⟨z, r, is1_str i1, is1_ref i2, e1, ?_⟩
    rw [e2]
    exact fin_v R (.bl _) q
  · exact q.elim
end
/-- the top's facts with its tables -/
structure WorT (fa : List He.Fa) (fn : List He.DefD) (ts : List He.Tab) (w : World) (K : PySem.W.Frag) (mg : Str → Option Value) : Prop extends Wor fa fn K mg where
  t : He.SaysT fa fn ts w K
theorem WorT.tb {fa : List He.Fa} {fn : List He.DefD} {ts : List He.Tab} {w : World} {K : PySem.W.Frag} {mg : Str → Option Value} (W : WorT fa fn ts w K mg) (i j : Nat) {x : Str} {ks : List Str} (h : fa[i]? = some (.glo x) := by rfl) (h2 : ts[j]? = some ((fun K => He.ga K x), ks) := by rfl) : Tb w K mg x ks := by
  refine ⟨W.glo i h, ?_⟩
  have e : ts.map (fun t => He.dicW K (t.1 K)) = ts.map fun t => some (He.keysIn w.params t.2) := congrArg (fun z : He.AlT => z.2) W.t
  have e2 : (ts.map fun t => He.dicW K (t.1 K))[j]? = (ts.map fun t => some (He.keysIn w.params t.2))[j]? := by rw [e]
  rw [List.getElem?_map, List.getElem?_map, h2] at e2
  exact Option.some.inj e2
end DL

set_option Elab.async false
set_option linter.all false
set_option maxRecDepth 100000
/-! DL31: small things. -/
namespace DL
open PySem PySem.Spec PySem.W PyProof.Rows L2
theorem DE.wk {X : Cx} {p : Bool} {e : Expr} {g : GE} (h : DE true p X e g) : DE false p X e g :=
  ⟨peI h.run fun σ H Q ⟨B, E, r, M, O, R, q⟩ => h.on R q fun d M1 v H1 O1 k1 R1 l1 i1 => k1 v H1 O1 R1 l1 i1.one, h.mono⟩
/-- the different ones -/
def uniq : List Int → List Int
  | [] => []
  | x :: xs => if x ∈ xs then uniq xs else x :: uniq xs
theorem uniq_mem (k : Int) : ∀ ns : List Int, k ∈ uniq ns ↔ k ∈ ns
  | [] => Iff.rfl
  | x :: xs => by
    unfold uniq
    split
    · rename_i h
      rw [uniq_mem k xs, List.mem_cons]
      exact ⟨.inr, fun z => z.elim (fun e => by rw [e]; exact h) fun z => z⟩
    · rw [List.mem_cons, List.mem_cons, uniq_mem k xs]
theorem uniq_nodup : ∀ ns : List Int, (uniq ns).Nodup
  | [] => List.nodup_nil
  | x :: xs => by
    unfold uniq
    split
    · exact uniq_nodup xs
    · rename_i h
      exact List.nodup_cons.mpr ⟨fun z => h ((uniq_mem x xs).mp z), uniq_nodup xs⟩
theorem uniq_len : ∀ ns : List Int, (uniq ns).length ≤ ns.length ∧ ((uniq ns).length = ns.length → ns.Nodup)
  | [] => ⟨Nat.le_refl _, fun _ => List.nodup_nil⟩
  | x :: xs => by
    obtain ⟨h1, h2⟩ := uniq_len xs
    unfold uniq
    split
    · rw [List.length_cons]
      exact ⟨by omega, fun e => by omega⟩
    · rename_i h
      rw [List.length_cons, List.length_cons]
      exact ⟨by omega, fun e => List.nodup_cons.mpr ⟨h, h2 (by omega)⟩⟩
theorem SameSet.iff {L ns : List Int} (h : SameSet L ns) : L.length = ns.length ↔ ns.Nodup := by
  have e : L.length = (uniq ns).length := ((List.perm_ext_iff_of_nodup h.1 (uniq_nodup ns)).mpr fun k => by rw [h.2, uniq_mem]).length_eq
  exact ⟨fun q => (uniq_len ns).2 (by omega), fun q => h.len q⟩
end DL

set_option Elab.async false
set_option linter.all false
set_option maxRecDepth 100000
/-! DL32: sorted of ints, lists or tuples. -/
namespace DLS
open PySem PySem.Spec PySem.W PyProof.Rows L2 SrtO
section
variable {prog : Program} {w : World} {A : Around} {E : Value → Shared → Prop} {s : Shared}
theorem collect_tup {l : Addr} {vs : List Value} {Q : List Value → Shared → Prop} (hl : s.heap.IsTuple l vs.toArray)
    (h : Q vs { s with heap := (s.heap.push (seqObj "list" #[] 0)).update s.heap.objs.size (Obj.mapSeq (· ++ vs.toArray)) }) (hsz : vs.length ≤ sizeLine) :
    wpAny (model prog w) A (collect (.ref l)) Q E s := by
  obtain ⟨o, ho, hc, n, hd⟩ := id hl
  unfold collect
  refine wpAny_bind (wpAny_runValue (codeAny_builtin entry_proto_collect' ?_))
  show wpAny _ _ (do again (.builtin "list.__iadd__" ⟨[← newList [], .ref l], []⟩)) _ _ s
  refine wpAny_bind (wpAny_newList (wpAny_pure ⟨Code.quiet_builtin _ (by decide +kernel), codeAny_builtin entry_list_iadd' ?_⟩))
  show wpAny _ _ (Builtin.List.listExtendWith (.ref s.heap.objs.size) (.ref l) (.ref s.heap.objs.size)) _ _ { s with heap := s.heap.push (seqObj "list" #[] 0) }
  unfold Builtin.List.listExtendWith
  have ho' : (s.heap.push (seqObj "list" #[] 0)).get? l = some o := Heap.get?_push_of_some _ ho
  refine wpAny_bind (wpAny_typeOf (T := "tuple") ⟨o, ho', hc⟩ ?_)
  have ht : (Value.type "tuple" == Value.type "tuple") = true := by rfl
  rw [if_pos (by rw [ht]; simp)]
  refine wpAny_bind (listItems_at ho' hd ?_)
  refine wpAny_bind (listItems_at (xs := #[]) (n := 0) (Heap.get?_push_size _ rfl) rfl ?_)
  rw [if_neg (by simp)]
  refine wpAny_bind (listUpdate_at (xs := #[]) (n := 0) (Heap.get?_push_size _ rfl) rfl ?_ (Nat.zero_le _) (by show (#[] ++ vs.toArray).size ≤ sizeLine + 1; simp only [Array.size_append, List.size_toArray, List.length_nil]; omega))
  refine wpAny_pure ?_
  show wpAny (model prog w) A (do
      let o ← load s.heap.objs.size
      match o.data with
      | .seq xs _ => pure xs.toList
      | _ => unsupported "internal:collect") Q E { s with heap := (s.heap.push (seqObj "list" #[] 0)).update s.heap.objs.size (Obj.mapSeq (· ++ vs.toArray)) }
  refine wpAny_bind (wpAny_load (get?_update_seq (Heap.get?_push_size _ rfl) _) ?_)
  show wpAny _ _ (pure ((#[] : Array Value) ++ vs.toArray).toList) Q E _
  rw [show ((#[] : Array Value) ++ vs.toArray).toList = vs by simp]
  exact wpAny_pure h
theorem sorted_tup {l : Addr} {vs : List Value} {ltv : Value → Value → Bool} {Q : Value → Shared → Prop} (O : Swo ltv) (hl : s.heap.IsTuple l vs.toArray) (hz : vs.length ≤ sizeLine)
    (hS : 2 ≤ vs.length → ∀ (h₁ : Heap) (a : Addr), h₁.get? a = some (seqObj "list" vs.toArray 0) → (∀ b o, s.heap.get? b = some o → b ≠ a ∧ h₁.get? b = some o) → SortableO prog w A.in1.in1 { s with heap := h₁ } a vs ltv)
    (h : ∀ out : List Value, Srtd ltv out → Stb ltv out vs → Q (.ref (s.heap.objs.size + 1)) { s with heap := sortedAll s.heap vs out.toArray }) :
    wpAny (model prog w) A (call (.builtin "sorted") [.ref l]) Q E s := by
  refine Calls.call_function_entry kind_sorted plain_sorted entry_sorted (args_sorted1 _) ?_
  unfold Builtin.«sorted»
  refine wpAny_bind (m := checkCount "sorted" 1 1 _) (wpAny_pure ?_)
  refine wpAny_bind (collect_tup hl ?_ hz)
  refine wpAny_bind (wpAny_newList ?_ hz)
  have hsz : ((s.heap.push (seqObj "list" #[] 0)).update s.heap.objs.size (Obj.mapSeq (· ++ vs.toArray))).objs.size = s.heap.objs.size + 1 := by
    rw [Heap.size_update, size_push']
  have hoL : (((s.heap.push (seqObj "list" #[] 0)).update s.heap.objs.size (Obj.mapSeq (· ++ vs.toArray))).push (seqObj "list" vs.toArray 0)).get? (s.heap.objs.size + 1) = some (seqObj "list" vs.toArray 0) := by
    rw [← hsz]; exact Heap.get?_push_size _ rfl
  have keep : ∀ b o, s.heap.get? b = some o → b ≠ s.heap.objs.size + 1 ∧ (((s.heap.push (seqObj "list" #[] 0)).update s.heap.objs.size (Obj.mapSeq (· ++ vs.toArray))).push (seqObj "list" vs.toArray 0)).get? b = some o := fun b o q => by
    have hlt : b < s.heap.objs.size := Heap.lt_size q
    refine ⟨Nat.ne_of_lt (Nat.lt_succ_of_lt hlt), Heap.get?_push_of_some _ ?_⟩
    rw [Heap.get?_update_ne _ _ _ _ (Nat.ne_of_lt hlt)]
    exact Heap.get?_push_of_some _ q
  show wpAny _ _ _ _ _ { s with heap := ((s.heap.push (seqObj "list" #[] 0)).update s.heap.objs.size (Obj.mapSeq (· ++ vs.toArray))).push (seqObj "list" vs.toArray 0) }
  rw [hsz]
  refine wpAny_bind (wpAny_holding (wpAny_call_entry slot_list_sort ⟨_, hoL, rfl⟩ entry_list_sort (list_sort_ord O hoL hz (fun h2 => hS h2 _ _ hoL keep) fun out hs hb => ⟨_, rfl, ?_⟩) (args_list_sort _)))
  exact wpAny_pure ⟨_, rfl, h out hs hb⟩
end
end DLS
namespace DL
open PySem PySem.Spec PySem.W PyProof.Rows L2
section
variable {X : Cx} {w p : Bool} {e : Expr} {g ga : GE} {pos : Pos}
def rSortedA (K : PySem.W.Frag) : List V → Hp → VK → Prop := fun vs H Q => ∃ (a : Addr) (ns : List Int), vs = [V.ref a] ∧ (SqL K H a (ns.map V.int) ∨ SqT K H a (ns.map V.int)) ∧
  ∀ (ns' : List Int) (p : Addr), ns'.Perm ns → ns'.Pairwise (· ≤ ·) → H p = none → Q (.ref p) (upd H p (.lst (ns'.map V.int)))
theorem cr_sortedA : CallR X (.builtin "sorted") (rSortedA X.K) := by
  intro pins s σ H vs us Q I r h
  obtain ⟨a, ns, rfl, hs | hs, q⟩ := h
  · exact cr_sortedI pins s σ H _ us Q I r ⟨a, ns, rfl, hs, q⟩
  · obtain ⟨its, rv, hl, hz⟩ := I.tuple hs
    rw [Vals.ref1 r]
    have hi := rv.ints
    refine DLS.sorted_tup SrtO.swo_int (show s.heap.IsTuple a its.toArray from hl) (by rw [← rv.length]; exact hz) (fun h2 h₁ a' _ _ => SrtO.ints_sortable hi h2) fun out h1 h2 => ?_
    obtain ⟨k1, k2, k3⟩ := SrtO.ints_out hi h1 h2
    obtain ⟨ep, he'⟩ := PyProof.Rows.sortedAll_at s.heap its out.toArray
    have hlen : ((out.map SrtO.iv).map V.int).length ≤ sizeLine := by
      rw [List.length_map, k2.length_eq]
      rw [List.length_map] at hz
      exact hz
    exact ⟨.ref _, upd H (s.heap.objs.size + 1) (.lst ((out.map SrtO.iv).map V.int)), I.laid (t' := s.toks) (fun _ _ => PyProof.Rows.sortedAll_old) (Nat.le_succ _) ⟨hlen, out, ep, vals_of_ints k1, he'⟩, rfl, q _ _ k2 k3 (I.hok.fresh (Nat.le_succ _))⟩
/-- sorted(xs) -/
def sortK (d : D) (k : List D → Prop) : Prop := match d with
  | .lst xs => ∃ ns, intsOf xs = some ns ∧ ∀ ns' : List Int, ns'.Perm ns → ns'.Pairwise (· ≤ ·) → k (ns'.map .int)
  | .tup xs => ∃ ns, intsOf xs = some ns ∧ ∀ ns' : List Int, ns'.Perm ns → ns'.Pairwise (· ≤ ·) → k (ns'.map .int)
  | _ => False
theorem sortK_lst {ns : List Int} {k : List D → Prop} : sortK (.lst (ns.map .int)) k = ∀ ns' : List Int, ns'.Perm ns → ns'.Pairwise (· ≤ ·) → k (ns'.map .int) := by
  show (∃ ms, intsOf (ns.map D.int) = some ms ∧ _) = _
  rw [intsOf_map]
  exact propext ⟨fun ⟨ms, e, q⟩ => by cases e; exact q, fun q => ⟨ns, rfl, q⟩⟩
theorem sortK_tup {ns : List Int} {k : List D → Prop} : sortK (.tup (ns.map .int)) k = ∀ ns' : List Int, ns'.Perm ns → ns'.Pairwise (· ≤ ·) → k (ns'.map .int) := by
  show (∃ ms, intsOf (ns.map D.int) = some ms ∧ _) = _
  rw [intsOf_map]
  exact propext ⟨fun ⟨ms, e, q⟩ => by cases e; exact q, fun q => ⟨ns, rfl, q⟩⟩
theorem sortK_mono {d : D} {k k' : List D → Prop} (h : ∀ ds, k ds → k' ds) (q : sortK d k) : sortK d k' := by
  unfold sortK at q ⊢
  split at q
  · obtain ⟨ns, e, q⟩ := q
    exact ⟨ns, e, fun ns' h1 h2 => h _ (q ns' h1 h2)⟩
  · obtain ⟨ns, e, q⟩ := q
    exact ⟨ns, e, fun ns' h1 h2 => h _ (q ns' h1 h2)⟩
  · exact q.elim
def gFsort (ga : GE) : GF := fun r M Q => ga r M fun d M1 => sortK d fun ds => Q (.lst ds) M1
theorem isL_ints {K : PySem.W.Frag} {A : Addr → Prop} {H : Hp} : ∀ {l : List Int}, IsL K A H (l.map V.int) (l.map D.int)
  | [] => .nil
  | k :: l => .cons (.int _) (isL_ints (l := l))
theorem df_sorted {pf : Pos} (ha : DE w p X e ga) (hg : Gl X "sorted") (hm : X.mg "sorted" = none) (hst : starEach [e] X.env = (false, eval e X.env) :: starEach [] X.env := by rfl) (hpl : (backTo pos (starEach [] X.env)).any (·.1) = false := by rfl) :
    DF p X (.Call (.Name "sorted" pf) [e] [] pos) (gFsort ga) := by
  refine ⟨peI (pe_callB cr_sortedA hg hm boot_sorted (da_one ha hst).run (by decide) (by decide) hst hpl) fun σ H Q ⟨B, E, r, M, O, R, q⟩ => ?_, fun r M Q Q' h q => ha.mono r M _ _ (fun d M1 q1 => sortK_mono (fun _ q2 => h _ _ q2) q1) q⟩
  refine (da_one ha hst).on R (k := fun zs M2 => ∃ z, zs = [z] ∧ sortK z fun ds => ∀ a H' O', New X B E σ H' r M2 O' a → Rl p M O H M2 O' H' → OOk X.K (Up (Av B M2 O') a) H' a (.lst ds) → Q (.ref a) H') (ha.mono _ _ _ _ (fun z M2 q1 => ⟨z, rfl, q1⟩) q) fun zs M1 vs H1 O1 k1 R1 l1 i1 => ?_
  obtain ⟨z, rfl, k1⟩ := k1
  have i2 := isXL_weak i1
  have fin : ∀ (ns' : List Int) (b : Addr), H1 b = none → (∀ a H' O', New X B E σ H' r M1 O' a → Rl p M O H M1 O' H' → OOk X.K (Up (Av B M1 O') a) H' a (.lst (ns'.map .int)) → Q (.ref a) H') → Q (.ref b) (upd H1 b (.lst (ns'.map V.int))) := fun ns' b n q => by
    obtain ⟨N, o⟩ := new_lst R1 (ds := ns'.map .int) isL_ints n
    exact q b _ O1 N (l1.trans (Rl.of_same (same_upd n))) o
  unfold sortK at k1
  split at k1
  · obtain ⟨ns, en, k2⟩ := k1
    obtain ⟨v, rfl, a, vs, rfl, h1, l3⟩ := isXL1 i2
    rw [of_intsOf l3 en] at h1
    exact ⟨a, ns, rfl, .inl (SqL.of h1), fun ns' b h2 h3 n => fin ns' b n (k2 ns' h2 h3)⟩
  · obtain ⟨ns, en, k2⟩ := k1
    obtain ⟨v, rfl, a, vs, rfl, h1, l3⟩ := isXL1 i2
    rw [of_intsOf l3 en] at h1
    exact ⟨a, ns, rfl, .inr h1, fun ns' b h2 h3 n => fin ns' b n (k2 ns' h2 h3)⟩
  · exact k1.elim
end
end DL

set_option Elab.async false
set_option linter.all false
set_option maxRecDepth 100000
/-! DL33: sum(a list of lists, a list). -/
namespace DL
open PySem PySem.Spec PySem.W PyProof.Rows L2
section
variable {prog : Program} {w : World} {A : Around} {R : Result → Shared → Prop} {I : Addr} {fp wr : List Addr} {n : Nat} {P : Nat → Value → Prop} {St : Nat → Heap → Prop}
theorem args_sum2 (a b : Value) : argsOk "sum" ⟨[a, b], []⟩ := by unfold argsOk; kernel_rfl
theorem sub_list_bytearray : isSubtype (.type "list") (.type "bytearray") = pure false := by rw [isSubtype_type]; kernel_rfl
def catA (acc : Array Value) : List (Array Value) → Array Value
  | [] => acc
  | x :: r => catA (acc ++ x) r
theorem catA_size (acc : Array Value) : ∀ r, acc.size ≤ (catA acc r).size
  | [] => Nat.le_refl _
  | x :: r => by
    have := catA_size (acc ++ x) r
    rw [Array.size_append] at this
    show acc.size ≤ (catA (acc ++ x) r).size
    omega
theorem loop_cat {I l S : Addr} {items : Array Value} (hh : A.in1.handled = none) (hSI : S ≠ I) (hSl : S ≠ l) (hlI : l ≠ I) :
    ∀ (rest : List (Array Value)) (i : Nat) (s : Shared) (p : Addr) (acc : Array Value) (m c : Nat), items.size = i + rest.length → s.heap.IsListIter I l i → s.heap.IsList l items → s.heap.get? S = some { cls := .type "list", dict := none, data := .seq #[.ref p] c, slots := #[] } →
    p ≠ I → p ≠ S → PySem.IsL s.heap p acc m →
    (∀ (j : Nat) v xs, rest[j]? = some xs → items[i + j]? = some v → ∃ b k, v = .ref b ∧ b ≠ I ∧ b ≠ S ∧ PySem.IsL s.heap b xs k) → (catA acc rest).size ≤ sizeLine →
    (∀ h' tk q k, (∀ b o, b ≠ I → b ≠ S → s.heap.get? b = some o → h'.get? b = some o) → PySem.IsL h' q (catA acc rest) k → (rest = [] → q = p) → (rest ≠ [] → s.heap.objs.size ≤ q) → R (.ok (.ret (.ref q))) { s with heap := h', toks := tk }) →
    codeAny (model prog w) A (.builtin "sum.loop" ⟨[.ref I, .ref S, rawInt 2, rawInt 0], []⟩) R s := by
  intro rest
  induction rest with
  | nil =>
    intro i s p acc m c hn hit hl hS hpw hpS hp hits hsz hR
    have hin : items[i]? = none := by simp at hn ⊢; omega
    refine codeAny_builtin F.entry_sum_loop ?_
    rw [Around.under_plainId F.plain_sum_loop _]
    show wpAny _ A.in1 (seqItems? (.ref S) >>= _) _ _ s
    refine wpAny_bind (wpAny_seqItems hS rfl ?_)
    show wpAny _ A.in1 (tryCatch (pyNext (.ref I)) _ >>= _) _ _ s
    refine wpAny_bind (wpAny_tryCatch (wpAny_pyNext_list_end hh hit hl hin fun h' hk' => ?_))
    exact wpAny_pure (hR h' s.toks p m (fun b o hb _ e => hk' b o hb e) (hk' p _ hpw hp) (fun _ => rfl) fun z => absurd rfl z)
  | cons x r ih =>
    intro i s p acc m c hn hit hl hS hpw hpS hp hits hsz hR
    have hlt : i < items.size := by simp at hn; omega
    have hsz0 := catA_size (acc ++ x) r
    have hsz1 : acc.size + x.size ≤ sizeLine := by
      have h2 : (catA acc (x :: r)).size = (catA (acc ++ x) r).size := rfl
      rw [Array.size_append] at hsz0
      omega
    refine codeAny_builtin F.entry_sum_loop ?_
    rw [Around.under_plainId F.plain_sum_loop _]
    show wpAny _ A.in1 (seqItems? (.ref S) >>= _) _ _ s
    refine wpAny_bind (wpAny_seqItems hS rfl ?_)
    show wpAny _ A.in1 (tryCatch (pyNext (.ref I)) _ >>= _) _ _ s
    obtain ⟨b, k, eb, hbw, hbS, hb⟩ := hits 0 items[i] x rfl (by simp [hlt])
    refine wpAny_bind (wpAny_tryCatch (wpAny_pyNext_list_item hit hl (x := items[i]) (by simp [hlt]) fun h' hit' hsb => ?_))
    rw [eb]
    have hk' := hsb.extBut
    have hS' := hk' S _ hSI hS
    have hp' := hk' p _ hpw hp
    have hb' := hk' b _ hbw hb
    have hl' := hl.extBut hsb.extBut hlI
    have hsize : h'.objs.size = s.heap.objs.size := hsb.1
    show wpAny _ A.in1 ((holding [Value.ref b] (binaryOp .Add (.ref p) (.ref b))).attempt >>= _) _ _ _
    refine wpAny_bind (wpAny_attempt (wpAny_holding (PySem.P.add_list hp' hb' ?_ hsz1)))
    have hS2 : (h'.push { cls := .type "list", data := .seq (acc ++ x) }).get? S = _ := Heap.get?_push_of_some _ hS'
    show wpAny _ A.in1 (updateSeq S (fun _ => #[.ref h'.objs.size]) >>= _) _ _ _
    refine wpAny_bind ?_
    refine wpAny_updateSeq hS2 rfl ?_
    have hS3 := Heap.get?_update_self (Obj.mapSeq fun _ => #[Value.ref h'.objs.size]) hS2 rfl
    refine wpAny_bind (wpAny_letGo ?_)
    refine wpAny_bind ?_
    have hnS : h'.objs.size ≠ S := fun e => Nat.ne_of_lt (Heap.lt_size hS') e.symm
    have hnI : h'.objs.size ≠ I := fun e => by
      obtain ⟨o, ho, _⟩ := hit'
      exact Nat.ne_of_lt (Heap.lt_size ho) e.symm
    have up : ∀ c o, c ≠ S → (h'.get? c = some o) → ((h'.push { cls := .type "list", data := .seq (acc ++ x) }).update S (Obj.mapSeq fun _ => #[Value.ref h'.objs.size])).get? c = some o := fun c o hc e =>
      (Heap.get?_update_other _ _ (Ne.symm hc)).trans (Heap.get?_push_of_some _ e)
    have hnew : ((h'.push { cls := .type "list", data := .seq (acc ++ x) }).update S (Obj.mapSeq fun _ => #[Value.ref h'.objs.size])).get? h'.objs.size = some { cls := .type "list", dict := none, data := .seq (acc ++ x) 0, slots := #[] } :=
      (Heap.get?_update_other _ _ (Ne.symm hnS)).trans (Heap.get?_push_size _ rfl)
    have up2 : ∀ c o, c ≠ S → (h'.get? c = some o) → (((h'.push { cls := .type "list", data := .seq (acc ++ x) }).update S (Obj.mapSeq fun _ => #[Value.ref h'.objs.size])).update S (Obj.mapSeq fun _ => #[Value.ref h'.objs.size])).get? c = some o := fun c o hc e =>
      (Heap.get?_update_other _ _ (Ne.symm hc)).trans (up c o hc e)
    refine wpAny_updateSeq hS3 rfl (wpAny_pure ⟨plainId_quiet F.plain_sum_loop _, ih (i + 1) _ h'.objs.size (acc ++ x) 0 _ (by simp at hn; omega) (hit'.at fun o e => up2 I o (Ne.symm hSI) e) ?_ (Heap.get?_update_self _ hS3 rfl) hnI hnS
      ((Heap.get?_update_other _ _ (Ne.symm hnS)).trans hnew) (fun j v xs hx hv => ?_) hsz fun h'' tk'' q k'' hk'' hq q1 q2 => ?_⟩)
    · obtain ⟨ol, e1, e2⟩ := hl'
      exact ⟨ol, up2 l ol (Ne.symm hSl) e1, e2⟩
    · obtain ⟨b2, k2, e1, e2, e3, e4⟩ := hits (j + 1) v xs hx (by rw [← hv]; congr 1; omega)
      exact ⟨b2, k2, e1, e2, e3, up2 b2 _ e3 (hk' b2 _ e2 e4)⟩
    · refine hR h'' tk'' q k'' (fun b3 o hbI hbS e => hk'' b3 o hbI hbS (up2 b3 o hbS (hk' b3 o hbI e))) hq (fun z => by cases z) fun _ => ?_
      cases r with
      | nil => rw [q1 rfl, hsize]; exact Nat.le_refl _
      | cons y r =>
        have h1 := q2 (List.cons_ne_nil _ _)
        rw [Heap.size_update, Heap.size_update, Heap.size_push] at h1
        have h2 : h'.objs.size + 1 ≤ q := h1
        omega
theorem call_sum2 {E : Value → Shared → Prop} {s : Shared} {l z : Addr} {items : Array Value} {xss : List (Array Value)} {acc : Array Value} {m : Nat} {Q : Value → Shared → Prop} (hh : A.handled = none)
    (hl : s.heap.IsList l items) (hz : PySem.IsL s.heap z acc m) (hn : items.size = xss.length)
    (hits : ∀ (j : Nat) v xs, xss[j]? = some xs → items[j]? = some v → ∃ b k, v = .ref b ∧ PySem.IsL s.heap b xs k) (hsz : (catA acc xss).size ≤ sizeLine)
    (h : ∀ h' tk q k, (∀ b o, s.heap.get? b = some o → h'.get? b = some o) → PySem.IsL h' q (catA acc xss) k → (xss = [] → q = z) → (xss ≠ [] → s.heap.objs.size ≤ q) → Q (.ref q) { s with heap := h', toks := tk }) :
    wpAny (model prog w) A (call (.builtin "sum") [.ref l, .ref z]) Q E s := by
  refine call_function_tree F.kind_sum F.plain_sum F.entry_sum (args_sum2 _ _) ?_
  unfold Builtin.«sum»
  simp only [List.length_cons, List.length_nil]
  rw [if_neg (by decide)]
  refine wpAny_bind (wpAny_of_eq (show Builtin.Builtins.bindParams "sum" ["start"] 0 ⟨[.ref z], []⟩ = pure [some (.ref z)] from rfl) ?_)
  refine wpAny_bind (iter_any hl fun s₂ e hst hne => ?_)
  subst e
  obtain ⟨hit, hl2⟩ := hst
  have ltS : ∀ {b o}, s.heap.get? b = some o → b ≠ s.heap.objs.size ∧ b ≠ (s.heap.push { cls := .type "list_iterator", data := .fields #[.ref l, .int 0 0] }).objs.size := fun {b o} e => by
    have h1 : b < s.heap.objs.size := Heap.lt_size e
    exact ⟨Nat.ne_of_lt h1, by rw [Heap.size_push]; exact Nat.ne_of_lt (Nat.lt_succ_of_lt h1)⟩
  have hlz : s.heap.objs.size ≠ z := fun e => Nat.ne_of_lt (Heap.lt_size hz) e.symm
  have hz2 : PySem.IsL (s.heap.push { cls := .type "list_iterator", data := .fields #[.ref l, .int 0 0] }) z acc m := Heap.get?_push_of_some _ hz
  have ht : ({ s with heap := s.heap.push { cls := .type "list_iterator", data := .fields #[.ref l, .int 0 0] } } : Shared).TypeIs (.ref z) "list" := ⟨_, hz2, rfl⟩
  refine wpAny_bind (wpAny_pure ?_)
  simp only [List.forIn_cons, List.forIn_nil]
  refine wpAny_bind (wpAny_bind (wpAny_bind (wpAny_isInstance (T := "list") (b := false) ht F.sub_list_str ?_)))
  simp only [Bool.false_eq_true, if_false]
  refine wpAny_pure (wpAny_bind (wpAny_bind (wpAny_isInstance (T := "list") (b := false) ht F.sub_list_bytes ?_)))
  simp only [Bool.false_eq_true, if_false]
  refine wpAny_pure (wpAny_bind (wpAny_bind (wpAny_isInstance (T := "list") (b := false) ht sub_list_bytearray ?_)))
  simp only [Bool.false_eq_true, if_false]
  refine wpAny_pure (wpAny_pure ?_)
  refine wpAny_bind (wpAny_newList ?_)
  have hl3 := hl2.push { cls := .type "list", data := .seq #[Value.ref z] }
  have eS : (s.heap.push { cls := .type "list_iterator", data := .fields #[.ref l, .int 0 0] }).objs.size = s.heap.objs.size + 1 := Heap.size_push _ _
  refine wpAny_pure ⟨plainId_quiet F.plain_sum_loop _, loop_cat (I := s.heap.objs.size) (l := l) (S := (s.heap.push { cls := .type "list_iterator", data := .fields #[.ref l, .int 0 0] }).objs.size) (items := items) hh ?_ (fun e => ?_) hne xss 0 _ z acc m 0 (by omega) (hit.at fun _ q => Heap.get?_push_of_some _ q) hl3 (Heap.get?_push_size _ rfl) (Ne.symm hlz) (fun e => ?_) (Heap.get?_push_of_some _ hz2) (fun j v xs hx hv => ?_) hsz fun h' tk q k hk hq q1 q2 => ?_⟩
  · rw [eS]; exact Nat.succ_ne_self _
  · obtain ⟨o, e1, _⟩ := hl
    exact (ltS e1).2 e.symm
  · exact (ltS hz).2 e
  · obtain ⟨b, k, e1, e2⟩ := hits j v xs hx (by rw [← hv]; congr 1; omega)
    exact ⟨b, k, e1, (ltS e2).1, (ltS e2).2, Heap.get?_push_of_some _ (Heap.get?_push_of_some _ e2)⟩
  · refine h h' tk q k (fun b o e => ?_) hq q1 fun z => ?_
    · exact hk b o (ltS e).1 (ltS e).2 (Heap.get?_push_of_some _ (Heap.get?_push_of_some _ e))
    · have h1 := q2 z
      rw [show ∀ h : Heap, ∀ o, (h.push o).objs.size = h.objs.size + 1 from Heap.size_push, eS] at h1
      exact Nat.le_trans (Nat.le_trans (Nat.le_succ _) (Nat.le_succ _)) h1
end
/-- sum(a list of lists, a list) -/
def rSumL (K : PySem.W.Frag) : List V → Hp → VK → Prop := fun vs H Q => ∃ (a z : Addr) (bs : List Addr) (xss : List (List V)) (zs : List V), vs = [V.ref a, V.ref z] ∧ SqL K H a (bs.map V.ref) ∧ H z = some (.lst zs) ∧
  bs.length = xss.length ∧ (∀ (j : Nat) b xs, bs[j]? = some b → xss[j]? = some xs → H b = some (.lst xs)) ∧ zs.length + xss.flatten.length ≤ sizeLine ∧
  (xss = [] → Q (.ref z) H) ∧ (xss ≠ [] → ∀ p, H p = none → Q (.ref p) (upd H p (.lst (zs ++ xss.flatten))))
theorem catA_list (acc : Array Value) : ∀ r : List (Array Value), (catA acc r).toList = acc.toList ++ (r.map Array.toList).flatten
  | [] => by simp [catA]
  | x :: r => by
    show (catA (acc ++ x) r).toList = _
    rw [catA_list (acc ++ x) r]
    simp
section
variable {X : Cx} {p : Bool}
theorem vals_refs : ∀ {bs : List Addr} {us : List Value}, Vals (bs.map V.ref) us → us = bs.map Value.ref
  | [], _, .nil => rfl
  | b :: bs, _, .cons r t => by
    cases r
    rw [vals_refs t]; rfl
theorem cr_sumL (hc : X.calm = true) : CallR X (.builtin "sum") (rSumL X.K) := by
  intro pins s σ H vs us Q I r h
  obtain ⟨a, z, bs, xss, zs, rfl, hs, hz, hn, hx, hsz, q0, q1⟩ := h
  obtain ⟨u1, u2, rfl, r1, r2⟩ : ∃ u1 u2, us = [u1, u2] ∧ RelV (.ref a) u1 ∧ RelV (.ref z) u2 := by
    cases r with
    | cons r rr => cases rr with
      | cons r' rr => cases rr; exact ⟨_, _, rfl, r, r'⟩
  cases r1
  cases r2
  obtain ⟨its, rv, hl, _⟩ := I.list hs
  obtain ⟨_, zts, m, rz, hlz, ez⟩ := I.lstM hz
  have eits := vals_refs rv
  subst eits
  -- the parts
  have parts : ∀ (bs : List Addr) (xss : List (List V)), bs.length = xss.length → (∀ (j : Nat) b xs, bs[j]? = some b → xss[j]? = some xs → H b = some (.lst xs)) →
      ∃ uss : List (List Value), uss.length = xss.length ∧ Vals xss.flatten uss.flatten ∧ ∀ (j : Nat) b us, bs[j]? = some b → uss[j]? = some us → ∃ k, PySem.IsL s.heap b us.toArray k := by
    intro bs
    induction bs with
    | nil =>
      intro xss hn hx
      cases xss with
      | nil => exact ⟨[], rfl, .nil, fun j b us h => by simp at h⟩
      | cons _ _ => simp at hn
    | cons b bs ih =>
      intro xss hn hx
      cases xss with
      | nil => simp at hn
      | cons xs xss =>
        obtain ⟨uss, h1, h2, h3⟩ := ih xss (by simpa using hn) fun j b xs e1 e2 => hx (j + 1) b xs (by simpa using e1) (by simpa using e2)
        obtain ⟨_, us, k, rv, _, e⟩ := I.lstM (hx 0 b xs rfl rfl)
        refine ⟨us :: uss, by simp [h1], ?_, fun j b' us' e1 e2 => ?_⟩
        · rw [List.flatten_cons, List.flatten_cons]
          exact rv.append h2
        · cases j with
          | zero =>
            simp at e1 e2
            subst e1 e2
            exact ⟨k, e⟩
          | succ j => exact h3 j b' us' (by simpa using e1) (by simpa using e2)
  obtain ⟨uss, hul, huv, hup⟩ := parts bs xss hn hx
  have ecat : (catA zts.toArray (uss.map List.toArray)).toList = zts ++ uss.flatten := by
    rw [catA_list]
    simp [List.map_map, Function.comp_def]
  have hszc : (catA zts.toArray (uss.map List.toArray)).size ≤ sizeLine := by
    rw [← Array.length_toList, ecat, List.length_append, ← hlz, ← huv.length]
    exact hsz
  refine call_sum2 (xss := uss.map List.toArray) (acc := zts.toArray) (m := m) (I.ok.hd hc) hl.isList ez ?_ (fun j v xs hx hv => ?_) hszc fun h' tk q k hk hq q2 q3 => ?_
  · rw [List.size_toArray, List.length_map, List.length_map, hul, hn]
  · rw [List.getElem?_map, Option.map_eq_some_iff] at hx
    obtain ⟨us, e1, rfl⟩ := hx
    rw [List.getElem?_toArray, List.getElem?_map, Option.map_eq_some_iff] at hv
    obtain ⟨b, e2, rfl⟩ := hv
    obtain ⟨k, h⟩ := hup j b us e2 e1
    exact ⟨b, k, rfl, h⟩
  · by_cases hxe : xss = []
    · subst hxe
      have : uss = [] := List.length_eq_zero_iff.mp hul
      subst this
      rw [q2 rfl]
      exact ⟨.ref z, H, I.kept hk, rfl, q0 rfl⟩
    · have hue : uss.map List.toArray ≠ [] := fun e => hxe (List.length_eq_zero_iff.mp (by rw [← hul, ← List.length_map (f := List.toArray), e]; rfl))
      have hle := q3 hue
      refine ⟨.ref q, upd H q (.lst (zs ++ xss.flatten)), I.laid hk hle ⟨by rw [List.length_append]; exact hsz, zts ++ uss.flatten, k, rz.append huv, ?_⟩, rfl, q1 hxe q (I.hok.fresh hle)⟩
      rw [← ecat]
      exact hq
def refsOf : List D → Option (List (List D))
  | [] => some []
  | .lst xs :: r => (refsOf r).map (xs :: ·)
  | _ => none
/-- sum of lists, onto a list -/
def gcSumL : GC := fun ds M Q => match ds with
  | [.lst xs, .lst zs] => ∃ xss, refsOf xs = some xss ∧ zs.length + xss.flatten.length ≤ sizeLine ∧ Q (.lst (zs ++ xss.flatten)) M
  | _ => False
theorem of_refsOf {K : PySem.W.Frag} {A : Addr → Prop} {H : Hp} : ∀ {vs : List V} {ds : List D} {xss : List (List D)}, IsL K A H vs ds → refsOf ds = some xss →
    ∃ (bs : List Addr) (vss : List (List V)), vs = bs.map V.ref ∧ bs.length = vss.length ∧ vss.length = xss.length ∧ (∀ (j : Nat) b us, bs[j]? = some b → vss[j]? = some us → H b = some (.lst us)) ∧ IsL K A H vss.flatten xss.flatten
  | _, _, _, .nil, h => by
    cases h
    exact ⟨[], [], rfl, rfl, rfl, fun j b us h => by simp at h, .nil⟩
  | _, d :: r, _, .cons i l, h => by
    cases d with
    | lst b =>
      simp only [refsOf, Option.map_eq_some_iff] at h
      obtain ⟨cs, h1, rfl⟩ := h
      obtain ⟨bs, vss, rfl, e1, e2, e3, e4⟩ := of_refsOf l h1
      cases i with
      | @lst a us _ hl li =>
        refine ⟨a :: bs, us :: vss, rfl, by simp [e1], by simp [e2], fun j b us h1 h2 => ?_, ?_⟩
        · cases j with
          | zero =>
            simp at h1 h2
            subst h1 h2
            exact hl.2
          | succ j => exact e3 j b us (by simpa using h1) (by simpa using h2)
        · rw [List.flatten_cons, List.flatten_cons]
          exact li.append e4
    | _ => simp [refsOf] at h
/-- a built-in's call, its arguments apart from what changes later -/
structure CaS (X : Cx) (f : Value) (gc : GC) : Prop where
  ex : ∃ rr : List V → Hp → VK → Prop, CallR X f rr ∧ ∀ B E σ H r M O xs ds Q, Rep X B E σ H r M O → IsL X.K (Av B M O) H xs ds → gc ds M (LE true true X B E σ r H M O Q) → rr xs H Q
  mono : ∀ d M Q Q', (∀ d M', Q d M' → Q' d M') → gc d M Q → gc d M Q'
theorem de_callS {gcl : GC} {id : String} {x : Str} {p : Bool} {e : Expr} {es : List Expr} {gs : GA} {pf pos : Pos} (hc : CaS X (.builtin id) gcl) (hg : Gl X x) (hm : X.mg x = none) (hv : bootBuiltins x = some (.builtin id)) (ha : DA true p X (e :: es) gs) (hn : x ≠ "__name__" := by decide) (hdb : (x == ("__debug__" : Str)) = false := by decide)
    (he : starEach (e :: es) X.env = (false, eval e X.env) :: starEach es X.env := by rfl) (hpl : (backTo pos (starEach es X.env)).any (·.1) = false := by rfl) : DE true p X (.Call (.Name x pf) (e :: es) [] pos) (gCa gcl gs) := by
  obtain ⟨⟨rr, h1, h2⟩, hmo⟩ := hc
  refine ⟨peI (pe_callB h1 hg hm hv ha.run hn hdb he hpl) fun σ H Q ⟨B, E, r, M, O, R, q⟩ => ?_, fun r M Q Q' h q => ha.mono r M _ _ (fun ds M1 q1 => hmo _ _ _ _ h q1) q⟩
  refine ha.on R q fun ds M1 vs H1 O1 k1 R1 l1 i1 => ?_
  exact h2 B E σ H1 r M1 O1 vs ds Q R1 (isXL_strong i1) (hmo _ _ _ _ (fun z M' q3 v3 H3 O3 R3 l3 i3 => q3 v3 H3 O3 R3 (l1.trans l3.weak) i3) k1)
theorem ca_sumL (hc : X.calm = true) : CaS X (.builtin "sum") gcSumL where
  ex := ⟨_, cr_sumL hc, fun B E σ H r M O xs ds Q R ii q => by
    unfold gcSumL at q
    split at q
    · cases ii with
      | cons i1 t =>
        cases t with
        | cons i2 t =>
          cases t
          obtain ⟨xss, e, hz, q⟩ := q
          cases i1 with
          | @lst a vs _ h1 l1 =>
            cases i2 with
            | @lst z zs' _ h2 l2 =>
              obtain ⟨bs, vss, rfl, e1, e2, e3, e4⟩ := of_refsOf l1 e
              refine ⟨a, z, bs, vss, zs', rfl, SqL.of h1.2, h2.2, e1, e3, by rw [l2.length, e4.length]; exact hz, fun h0 => ?_, fun h0 p hp => ?_⟩
              · subst h0
                have : xss = [] := List.length_eq_zero_iff.mp e2.symm
                subst this
                rw [List.flatten_nil, List.append_nil] at q
                exact fin_v R (.lst h2 l2) q
              · exact fin_lst R (l2.append e4) q p hp
    · exact q.elim⟩
  mono := fun d M Q Q' h q => by
    unfold gcSumL at q ⊢
    split at q
    · obtain ⟨bs, e, e2, q⟩ := q
      exact ⟨bs, e, e2, h _ _ q⟩
    · exact q.elim
/-- a, b, c = x, y, z -/
def gPar3 (i j l : Nat) (gs : GA) : GS := fun D r M => gs r M fun ds M1 => match ds with
  | [d, e, u] => D.nx (((r.set i (.v d)).set j (.v e)).set l (.v u)) M1
  | _ => False
theorem ds_par3 {gs : GA} (i j l : Nat) {x y z : Str} {a b c : Expr} {px py pz pt pos : Pos} {kt k2 pt2} (hc : X.calm = true) (hN : X.N.Nodup) (ha : DA true p X [a, b, c] gs) (hi : X.N[i]? = some x := by rfl) (hj : X.N[j]? = some y := by rfl) (hl : X.N[l]? = some z := by rfl) (hij : i ≠ j := by decide) (hil : i ≠ l := by decide) (hjl : j ≠ l := by decide)
    (hx : X.env.scope.names.lookup x = some .local := by rfl) (hy : X.env.scope.names.lookup y = some .local := by rfl) (hz : X.env.scope.names.lookup z = some .local := by rfl)
    (hw : swappedStores [.Tuple [.Name x px, .Name y py, .Name z pz] kt pt] (.Tuple [a, b, c] k2 pt2) X.env = pure (some [x, y, z]) := by rfl)
    (hs : swapsWithSole [.Tuple [.Name x px, .Name y py, .Name z pz] kt pt] (.Tuple [a, b, c] k2 pt2) pos.line X.env = pure false := by rfl) :
    DS X (.Assign [.Tuple [.Name x px, .Name y py, .Name z pz] kt pt] (.Tuple [a, b, c] k2 pt2) pos) (gPar3 i j l gs) := by
  refine ⟨psI (ps_par3 hc hN hi hj hl hij hil hjl hx hy hz ha.run hw hs) fun D σ H ⟨B, E, r, M, O, R, q⟩ => ?_, fun D D' r M l q => ha.mono _ _ _ _ (fun ds M1 q1 => ?_) q⟩
  · refine ha.on R q fun ds M1 vs H1 O1 k1 R1 l1 i1 => ?_
    have i2 := isXL_strong i1
    split at k1
    · cases i2 with
      | @cons v _ _ _ iv t =>
        cases t with
        | @cons u _ _ _ iu t =>
          cases t with
          | @cons w _ _ _ iw t =>
            cases t
            exact ⟨v, u, w, rfl, k1 _ H1 O1 (((R1.setv i iv).setv j iu).setv l iw)⟩
    · exact k1.elim
  · split at q1
    · exact l.nx _ _ q1
    · exact q1.elim
end
end DL

set_option Elab.async false
set_option linter.all false
set_option maxRecDepth 100000
/-! DL34: constants and tables of the top by their values. -/
namespace DL
open PySem PySem.Spec PySem.W PyProof.Rows L2
mutual
/-- whether a value of the written part bears d -/
def isB (K : PySem.W.Frag) : D → Value → Bool
  | .non, u => (match u with
    | .none => true
    | _ => false)
  | .bl b, u => (match u with
    | .bool c => decide (c = b)
    | _ => false)
  | .int i, u => (match u with
    | .int j _ => decide (j = i)
    | _ => false)
  | .str x, u => (match u with
    | .str y _ => decide (y = x)
    | _ => false)
  | .ref a, u => (match u with
    | .ref b => decide (b = a)
    | _ => false)
  | .tup ds, u => (match u with
    | .ref a => (match K.lookup a with
      | some ⟨.type c, none, .seq its _, _⟩ => decide (c = "tuple") && (decide (its.size ≤ 1000) && isBL K ds its.toList)
      | _ => false)
    | _ => false)
  | _, _ => false
def isBL (K : PySem.W.Frag) : List D → List Value → Bool
  | [], us => us.isEmpty
  | d :: ds, us => (match us with
    | u :: us => isB K d u && isBL K ds us
    | [] => false)
end
mutual
theorem isB_ok {K : PySem.W.Frag} : ∀ (d : D) (u : Value), isB K d u = true → ∃ v, RelV v u ∧ ∀ A H, Is K A H v d
  | .non, u, h => by
    unfold isB at h
    split at h
    · exact ⟨.non, rfl, fun _ _ => .non⟩
    · cases h
  | .bl b, u, h => by
    unfold isB at h
    split at h
    · have e := of_decide_eq_true h
      subst e
      exact ⟨.bl _, rfl, fun _ _ => .bl _⟩
    · cases h
  | .int i, u, h => by
    unfold isB at h
    split at h
    · have e := of_decide_eq_true h
      subst e
      exact ⟨.int _, ⟨_, rfl⟩, fun _ _ => .int _⟩
    · cases h
  | .str i, u, h => by
    unfold isB at h
    split at h
    · have e := of_decide_eq_true h
      subst e
      exact ⟨.str _, ⟨_, rfl⟩, fun _ _ => .str _⟩
    · cases h
  | .ref i, u, h => by
    unfold isB at h
    split at h
    · have e := of_decide_eq_true h
      subst e
      exact ⟨.ref _, rfl, fun _ _ => .ref _⟩
    · cases h
  | .tup ds, u, h => by
    unfold isB at h
    split at h
    · rename_i a
      split at h
      · rename_i c its n sl q
        obtain ⟨h1, h2⟩ := He.ba h
        obtain ⟨h2, h3⟩ := He.ba h2
        have e := of_decide_eq_true h1
        subst e
        obtain ⟨vs, r, l⟩ := isBL_ok ds its.toList h3
        exact ⟨.ref a, rfl, fun A H => .tup (.inr ⟨_, its, n, q, rfl, rfl, rfl, Nat.le_trans (of_decide_eq_true h2) (by rw [sizeLine_eq]; decide), r⟩) (l A H)⟩
      · cases h
    · cases h
  | .ty n, u, h => by cases h
  | .lst n, u, h => by cases h
  | .dic n, u, h => by cases h
theorem isBL_ok {K : PySem.W.Frag} : ∀ (ds : List D) (us : List Value), isBL K ds us = true → ∃ vs, Vals vs us ∧ ∀ A H, IsL K A H vs ds
  | [], us, h => by
    unfold isBL at h
    rw [List.isEmpty_iff] at h
    subst h
    exact ⟨[], .nil, fun _ _ => .nil⟩
  | d :: ds, us, h => by
    unfold isBL at h
    split at h
    · rename_i u us
      obtain ⟨h1, h2⟩ := He.ba h
      obtain ⟨v, r, l⟩ := isB_ok d u h1
      obtain ⟨vs, rs, ls⟩ := isBL_ok ds us h2
      exact ⟨v :: vs, .cons r rs, fun A H => .cons (l A H) (ls A H)⟩
    · cases h
end
/-- what is asked of the top besides -/
inductive Ck where
  | con (x : Str) (d : D)
  | tab (x : Str) (kvs : PySem.W.Frag → List (Str × D))
  /-- an own exception's class, as isinstance asks it -/
  | exq (x : Str)
  /-- isinstance of an instance of the class x -/
  | isq (x : Str) (c : PySem.W.Frag → D) (b : Bool)
def clsV : D → Value
  | .ref a => .ref a
  | .ty z => .type z
  | _ => .none
def kitD (K : PySem.W.Frag) (t : Value) : D → Option Bool
  | .tup ds => PySem.W.kitAny K t (ds.map clsV)
  | c => PySem.W.kitOne K t (clsV c)
def excB (K : PySem.W.Frag) (D : Addr) : Bool :=
  decide (PySem.W.findIn K (.ref D) "__getattribute__" = some (some (.builtin "BaseException.__getattribute__"))) && (decide (PySem.W.findIn K (.ref D) "__getattr__" = some none) && (decide (PySem.W.subIn K (.ref D) (.type "BaseException") = some true) && (PySem.W.hasDictIn K D &&
    (decide (PySem.W.findIn K (.ref D) "__class__" = some (some (.builtin "object.__class__"))) && (decide (PySem.W.specialIn K (.builtin "object.__class__") "__get__" = some (some (.builtin "getset_descriptor.__get__"))) && (decide (PySem.W.takesIn K (.builtin "object.__class__") = some true) && decide (PySem.W.mroIn K D (.type "object") = some true)))))))
def Ck.ok (K : PySem.W.Frag) : Ck → Bool
  | .con x d => (match PySem.W.nsIn K mainGlobals x with
    | some (some u) => isB K d u
    | _ => false)
  | .tab x kvs => (kvs K).all fun q => match PySem.W.nsIn K (He.ga K x) q.1 with
    | some (some u) => isB K q.2 u
    | _ => false
  | .exq x => excB K (He.ga K x)
  | .isq x c b => decide (kitD K (.ref (He.ga K x)) (c K) = some b)
structure WorC (fa : List He.Fa) (fn : List He.DefD) (ts : List He.Tab) (cs : List Ck) (w : World) (K : PySem.W.Frag) (mg : Str → Option Value) : Prop extends WorT fa fn ts w K mg where
  x : cs.all (Ck.ok K) = true
section
variable {fa : List He.Fa} {fn : List He.DefD} {ts : List He.Tab} {cs : List Ck} {w : World} {K : PySem.W.Frag} {mg : Str → Option Value}
/-- a constant of the top -/
def Con (K : PySem.W.Frag) (mg : Str → Option Value) (x : Str) (d : D) : Prop := ∃ u v, mg x = some u ∧ RelV v u ∧ ∀ A H, Is K A H v d
theorem WorC.ck (W : WorC fa fn ts cs w K mg) (i : Nat) {c : Ck} (h : cs[i]? = some c) : c.ok K = true := List.all_eq_true.mp W.x c (List.mem_of_getElem? h)
theorem WorC.con (W : WorC fa fn ts cs w K mg) (i : Nat) {x : Str} {d : D} (h : cs[i]? = some (.con x d) := by rfl) : Con K mg x d := by
  have c : (match PySem.W.nsIn K mainGlobals x with
    | some (some u) => isB K d u
    | _ => false) = true := W.ck i h
  obtain ⟨hp, X, G⟩ := W.ex
  split at c
  · rename_i u e
    obtain ⟨v, r, l⟩ := isB_ok d u c
    have e2 : mg x = some u := (PySem.W.mg_of X G e)
    exact ⟨u, v, e2, r, l⟩
  · cases c
/-- a table of the top with its values -/
structure TbV (w : World) (K : PySem.W.Frag) (mg : Str → Option Value) (x : Str) (kvs : List (Str × D)) : Prop where
  t : Tb w K mg x (kvs.map (·.1))
  v : ∀ q ∈ kvs, ∃ u v, PySem.W.nsIn K (He.ga K x) q.1 = some (some u) ∧ RelV v u ∧ ∀ A H, Is K A H v q.2
theorem WorC.tbv (W : WorC fa fn ts cs w K mg) (i j l : Nat) {x : Str} {kvs : PySem.W.Frag → List (Str × D)} {ks : List Str} (h : fa[i]? = some (.glo x) := by rfl) (h2 : ts[j]? = some ((fun K => He.ga K x), ks) := by rfl) (h3 : cs[l]? = some (.tab x kvs) := by rfl) (h4 : (kvs K).map (·.1) = ks := by rfl) : TbV w K mg x (kvs K) := by
  refine ⟨by rw [h4]; exact W.tb i j h h2, fun q hq => ?_⟩
  have c : ((kvs K).all fun q => match PySem.W.nsIn K (He.ga K x) q.1 with
    | some (some u) => isB K q.2 u
    | _ => false) = true := W.ck l h3
  have c2 := List.all_eq_true.mp c q hq
  split at c2
  · rename_i u e
    obtain ⟨v, r, l⟩ := isB_ok _ u c2
    exact ⟨u, v, e, r, l⟩
  · cases c2
end
section
variable {X : Cx} {p w : Bool} {x : Str} {kvs : List (Str × D)} {a b o e f : Expr} {ga gb go ge gf : GE} {pos px apos cpos : Pos}
theorem dg_con {d : D} (C : Con X.K X.mg x d) (hg : Gl X x := by rfl) (hd : (x == ("__debug__" : Str)) = false := by decide) : DE true p X (.Name x pos) (gC d) := by
  obtain ⟨u, v, e, r, l⟩ := C
  exact de_glob (v := v) hg e r l hd
theorem lookup_mem {z : Str} {d : D} : ∀ {kvs : List (Str × D)}, kvs.lookup z = some d → (z, d) ∈ kvs
  | (k, e) :: r, h => by
    rw [List.lookup_cons] at h
    cases q : z == k with
    | true =>
      rw [q] at h
      cases h
      rw [eq_of_beq q]
      exact List.mem_cons_self ..
    | false =>
      rw [q] at h
      exact List.mem_cons_of_mem _ (lookup_mem h)
theorem lookup_none {z : Str} : ∀ {kvs : List (Str × D)}, kvs.lookup z = none → z ∉ kvs.map (·.1)
  | [], _ => by simp
  | (k, e) :: r, h => by
    rw [List.lookup_cons] at h
    cases q : z == k with
    | true => rw [q] at h; cases h
    | false =>
      rw [q] at h
      have h1 := lookup_none (kvs := r) h
      rw [List.map_cons, List.mem_cons]
      exact fun y => y.elim (fun y => by rw [y, beq_self_eq_true] at q; cases q) h1
theorem TbV.got {w : World} {K : PySem.W.Frag} {mg : Str → Option Value} (T : TbV w K mg x kvs) {z : Str} {d : D} (h : kvs.lookup z = some d) : ∃ u v, PySem.W.nsIn K (He.ga K x) z = some (some u) ∧ RelV v u ∧ ∀ A H, Is K A H v d := T.v _ (lookup_mem h)
theorem TbV.miss {w : World} {K : PySem.W.Frag} {mg : Str → Option Value} (T : TbV w K mg x kvs) {z : Str} (h : kvs.lookup z = none) : PySem.W.nsIn K (He.ga K x) z = some none := by
  obtain ⟨r, e1, e2⟩ := T.t.at_ z
  rw [decide_eq_false (lookup_none h)] at e2
  cases r with
  | none => exact e1
  | some u => cases e2
/-- T[k], T a table of the top -/
def gTabIx (kvs : List (Str × D)) (gb : GE) : GE := fun r M Q => gb r M fun e M1 => match e with
  | .str z => (match kvs.lookup z with
    | some d => Q d M1
    | none => False)
  | _ => False
theorem de_tabIx {w : Bool} (T : TbV X.w X.K X.mg x kvs) (hb : DE w p X b gb) (hs : PlainIx b := by intro _ _; rfl) (hg : Gl X x := by rfl) (hd : (x == ("__debug__" : Str)) = false := by decide) : DE true p X (.Subscript (.Name x px) b pos) (gTabIx kvs gb) := by
  obtain ⟨es, n, D⟩ := T.t.kd
  refine ⟨peI (pe_ix ix_kdict (pe_glob (v := .ref (He.ga X.K x)) hg T.t.g rfl hd) hb.run hs) fun σ H Q ⟨B, E, r, M, O, R, q⟩ => ?_, fun r M Q Q' h q => hb.mono _ _ _ _ (fun e M1 q1 => ?_) q⟩
  · refine hb.on R q fun e M2 u H2 O2 k2 R2 l2 i2 => ?_
    split at k2
    · rename_i z
      split at k2
      · rename_i d hd
        obtain ⟨u0, v0, e1, r0, l0⟩ := T.got hd
        rw [is1_str i2.one]
        exact ⟨_, _, v0, rfl, rfl, ⟨es, n, u0, D.at_, D.lit, e1, r0⟩, k2 v0 H2 O2 R2 l2 (l0 _ _)⟩
      · exact k2.elim
    · exact k2.elim
  · split at q1
    · split at q1
      · exact h _ _ q1
      · exact q1.elim
    · exact q1.elim
/-- one of some tables -/
def TbAt (w : World) (K : PySem.W.Frag) (mg : Str → Option Value) (t : Addr × List (Str × D)) : Prop := ∃ x, t.1 = He.ga K x ∧ TbV w K mg x t.2
theorem tbs_nil {w : World} {K : PySem.W.Frag} {mg : Str → Option Value} : ∀ t ∈ ([] : List (Addr × List (Str × D))), TbAt w K mg t := fun _ h => nomatch h
theorem tbs_cons {w : World} {K : PySem.W.Frag} {mg : Str → Option Value} {l : List (Addr × List (Str × D))} (T : TbV w K mg x kvs) (h : ∀ t ∈ l, TbAt w K mg t) : ∀ t ∈ (He.ga K x, kvs) :: l, TbAt w K mg t := fun t ht => by
  rcases List.mem_cons.mp ht with rfl | ht
  · exact ⟨x, rfl, T⟩
  · exact h t ht
/-- T.get(k), T one of some tables of the top -/
def gTabGet (tabs : List (Addr × List (Str × D))) (go ge : GE) : GE := fun r M Q => go r M fun d M1 => match d with
  | .ref a => ∃ t ∈ tabs, t.1 = a ∧ ge r M1 fun e M2 => match e with
    | .str z => Q ((t.2.lookup z).getD .non) M2
    | _ => False
  | _ => False
theorem gTabGet_mono {tabs : List (Addr × List (Str × D))} (ho : ∀ r M Q Q', (∀ d M', Q d M' → Q' d M') → go r M Q → go r M Q') (he : ∀ r M Q Q', (∀ d M', Q d M' → Q' d M') → ge r M Q → ge r M Q') : ∀ r M Q Q', (∀ d M', Q d M' → Q' d M') → gTabGet tabs go ge r M Q → gTabGet tabs go ge r M Q' := fun r M Q Q' h q => ho _ _ _ _ (fun d M1 q1 => by
    split at q1
    · obtain ⟨t, h1, h2, q2⟩ := q1
      refine ⟨t, h1, h2, he _ _ _ _ (fun e M2 q3 => ?_) q2⟩
      split at q3
      · exact h _ _ q3
      · exact q3.elim
    · exact q1.elim) q
theorem de_tabGet {w1 w2 : Bool} {nm : Str} {tabs : List (Addr × List (Str × D))} (hT : ∀ t ∈ tabs, TbAt X.w X.K X.mg t) (ho : DE w1 p X o go) (he : DE w2 p X e ge) (hnm : nm = "get" := by rfl)
    (m : M1 X o "get" apos e cpos := by exact ⟨rfl, rfl, rfl, rfl⟩) : DE true p X (.Call (.Attribute o nm apos) [e] [] cpos) (gTabGet tabs go ge) := by
  subst hnm
  refine ⟨⟨fun pins s σ H Q I ⟨B, E, r, M, O, R, q⟩ => ?_⟩, gTabGet_mono ho.mono he.mono⟩
  have ho' := ho.run
  refine wpAny_Call_method m.base m.few m.line PySem.F.plainAttrs_dict PySem.F.slot_dict_get PySem.F.type_dict_get (thn (ho'.run pins s σ H (fun x H1 => ∃ t ∈ tabs, x = .ref t.1 ∧ ∃ M1 O1, Rep X B E σ H1 r M1 O1 ∧ Rl p M O H M1 O1 H1 ∧ ge r M1 fun e M2 => match e with
    | .str z => LE true p X B E σ r H M O Q ((t.2.lookup z).getD .non) M2
    | _ => False) I ?_) fun u s1 ⟨x, H1, I1, rx, t, ht, ex, M1, O1, R1, l1, q1⟩ => ?_)
  · refine ho.on R q fun d M1 v H1 O1 k1 R1 l1 i1 => ?_
    split at k1
    · obtain ⟨t, ht, e1, q2⟩ := k1
      subst e1
      exact ⟨t, ht, is1_ref i1.one, M1, O1, R1, l1, q2⟩
    · exact k1.elim
  · obtain ⟨y, ey, T⟩ := hT t ht
    obtain ⟨es, n, D⟩ := T.t.kd
    subst ex
    obtain rfl : u = Value.ref t.1 := rx
    rw [ey]
    refine ⟨kd_type D I1, fun b eb => ?_, ?_⟩
    · cases eb
      exact ⟨_, I1.kIn _ _ D.at_, rfl⟩
    rw [m.trees]
    refine Calls.callWith_builtin rfl (Calls.evalArgs_plain (Calls.spliced_cons (thn (he.run.run pins s1 σ H1 (fun z H2 => ∃ zz M2 O2, z = .str zz ∧ Rep X B E σ H2 r M2 O2 ∧ Rl p M1 O1 H1 M2 O2 H2 ∧ LE true p X B E σ r H M O Q ((t.2.lookup zz).getD .non) M2) I1 ?_) fun iv s2 ⟨z, H2, I2, rz, zz, M2, O2, ez, R2, l2, q2⟩ => Calls.spliced_nil ?_)))
    · refine he.on R1 q1 fun e M2 v H2 O2 k2 R2 l2 i2 => ?_
      split at k2
      · exact ⟨_, M2, O2, is1_str i2.one, R2, l2, k2⟩
      · exact k2.elim
    · subst ez
      obtain ⟨tk, rfl⟩ := rz
      refine call_meetsIn PySem.F.slot_dict_get (kd_type D I2) PySem.F.entry_dict_get (PySem.F.args_dict_get_2 _ _) (meets_dict_get (strKind X.prog X.w) (He.ga X.K y) (strKind_is X.prog X.w zz tk) D.low) ⟨_, PySem.W.mapOf_K (prog := X.prog) I2.kIn D.at_ D.lit, ?_⟩
      cases hl : t.2.lookup zz with
      | none =>
        rw [hl] at q2
        rw [PySem.W.find_K D.at_ (T.miss hl)]
        exact ⟨.non, H2, I2.tok _, rfl, q2 _ H2 O2 R2 (l1.trans l2) .non⟩
      | some d =>
        rw [hl] at q2
        obtain ⟨u0, v0, e1, r0, l0⟩ := T.got hl
        rw [PySem.W.find_K D.at_ e1]
        exact ⟨v0, H2, I2.tok _, r0, q2 _ H2 O2 R2 (l1.trans l2) (l0 _ _)⟩
end
end DL

set_option Elab.async false
set_option linter.all false
set_option maxRecDepth 100000
/-! DL35: a list times a number. -/
namespace DL
open PySem PySem.Spec PySem.W PyProof.Rows L2
section
variable {X : Cx} {p w : Bool} {a b : Expr} {ga gb : GE} {pos : Pos}
def goMulL : GO := fun d e M Q => match d, e with
  | .lst xs, .int k => (-1000000 ≤ k ∧ k ≤ 1000000 ∧ xs.length * k.toNat ≤ 1000000) ∧ Q (.lst (repD k xs)) M
  | _, _ => False
theorem goMulL_lst {xs : List D} {k : Int} {M : Mem} {Q : D → Mem → Prop} : goMulL (.lst xs) (.int k) M Q = ((-1000000 ≤ k ∧ k ≤ 1000000 ∧ xs.length * k.toNat ≤ 1000000) ∧ Q (.lst (repD k xs)) M) := rfl
theorem de_mulL (ha : DE true p X a ga) (hb : DE true p X b gb) : DE true p X (.BinOp a .Mult b pos) (g2 goMulL ga gb) := by
  refine ⟨peI (pe_op op_rep ha.run hb.run) fun σ H Q ⟨B, E, r, M, O, R, q⟩ => ?_, fun r M Q Q' h q => ha.mono _ _ _ _ (fun d M1 q1 => hb.mono _ _ _ _ (fun e M2 q2 => ?_) q1) q⟩
  · refine ha.on R q fun d M1 v H1 O1 k1 R1 l1 i1 => ?_
    refine hb.on R1 k1 fun e M2 u H2 O2 k2 R2 l2 i2 => ?_
    have i1' : Is X.K (Av B M2 O2) H2 v d := Is.step l2.avs i1
    have i2' : Is X.K (Av B M2 O2) H2 u e := i2
    unfold goMulL at k2
    split at k2
    · rename_i xs k
      obtain ⟨⟨c1, c2, c3⟩, k2⟩ := k2
      cases i2'
      cases i1' with
      | @lst l vs _ h l3 =>
        refine ⟨l, k, vs, rfl, rfl, h.2, by omega, by omega, by rw [l3.length]; exact size_of c3, fun q n => ?_⟩
        exact fin_lst R2 (l3.rep k.toNat) (LE.go (l1.trans l2) k2) q n
    · exact k2.elim
  · unfold goMulL at q2 ⊢
    split at q2
    · exact ⟨q2.1, h _ _ q2.2⟩
    · exact q2.elim
end
end DL

set_option Elab.async false
set_option linter.all false
set_option maxRecDepth 100000
/-! DL36: the index of a lent list; a list grown by another. -/
namespace DL
open PySem PySem.Spec PySem.W PyProof.Rows L2
section
variable {X : Cx} {p : Bool} {a b : Expr} {ga gb : GE}
/-- a.index(e), a lent -/
theorem de_indexW {nm : Str} {apos cpos : Pos} (hnm : nm = "index" := by rfl) (hu : X.A.units + 65 < cLine) (ha : DE false p X a ga) (hb : DE true true X b gb)
    (hbase : attributeBase a "index" X.env (eval a X.env) = eval a X.env := by rfl)
    (hfew : ((backTo cpos (starEach [b] X.env)).all (fun x => !x.1) && (backToKw cpos (keywordEach [] X.env)).all (fun x => x.1.isSome)
      && decide ([b].length + ([] : List Keyword).length + (if ([] : List Keyword).isEmpty then 0 else 1) < 30)) = true := by rfl)
    (hline : (apos.endLine == cpos.line) = true := by rfl) (hs : starEach [b] X.env = (false, eval b X.env) :: starEach [] X.env := by rfl) (hplain : (backTo cpos (starEach [] X.env)).any (·.1) = false := by rfl) :
    DE true p X (.Call (.Attribute a nm apos) [b] [] cpos) (gIdx ga gb) := by
  subst hnm
  refine ⟨peI (pe_idxA hu ha.run (da_one hb hs).run hbase hfew hline hs hplain) fun σ H Q ⟨B, E, r, M, O, R, q⟩ => ?_, gIdx_mono ha.mono hb.mono⟩
  refine ha.on R q fun d M1 v H1 O1 k1 R1 l1 i1 => ?_
  have i1 : Is1 X.K (Av B M1 O1) H1 v d := i1
  split at k1
  · rename_i ds _
    obtain ⟨l, vs, rfl, hl, l3⟩ := i1
    refine .inl ⟨.inl ⟨rfl, _, SqL.of hl⟩, ?_⟩
    refine (da_one hb hs).on R1 (k := fun zs M2 => ∃ e, zs = [e] ∧ (D.ok (.lst ds) = true ∧ e.ok = true) ∧ (match ixD ds e 0 with
      | some j => LE true p X B E σ r H M O Q (.int (j : Nat)) M2
      | none => False)) (hb.mono _ _ _ _ (fun e M2 q2 => ⟨e, rfl, q2⟩) k1) fun zs M2 us H2 O2 k2 R2 l2 i2 => ?_
    obtain ⟨e, rfl, ⟨ok1, ok2⟩, k2⟩ := k2
    split at k2
    · rename_i j ej
      obtain ⟨_, ⟨z, hz, hze⟩, hno⟩ := ixD_spec ej
      have jj := isXL_strong i2
      cases jj with
      | @cons u _ _ _ iu t =>
        cases t
        obtain ⟨e1, e2, e3⟩ := l2.1 rfl
        have iL : Is X.K (fun b => Av B M1 O1 b ∧ b ≠ l) H2 (.ref l) (.lst ds) := .lst ⟨fun z => z.2 rfl, e3 _ _ hl⟩ (l3.step (step_same e3 fun b n z => n z.1))
        have dp1 := iL.dp (ok_and ok1).1
        refine ⟨l, u, e.py, D.pyL ds, j, z.py, rfl, rfl, dp1, iu.dp (ok_and ok2).1, (ok_and ok1).2, (ok_and ok2).2, pyL_get' hz, hze, fun m z' hm hz' => ?_, fin_v R2 (.int _) fun v3 H3 O3 R3 l4 i3 => k2 v3 H3 O3 R3 ((l1.trans l2.weak).trans l4.weak) i3⟩
        obtain ⟨y, hy, rfl⟩ := pyL_get hz'
        exact hno m y (by omega) hy
    · exact k2.elim
  · rename_i ds _
    obtain ⟨l, vs, rfl, hl, l3⟩ := i1
    refine .inr ⟨⟨l, vs, rfl, hl⟩, ?_⟩
    refine (da_one hb hs).on R1 (k := fun zs M2 => ∃ e, zs = [e] ∧ ixT ds e fun j => LE true p X B E σ r H M O Q (.int (j : Nat)) M2) (hb.mono _ _ _ _ (fun e M2 q2 => ⟨e, rfl, q2⟩) k1) fun zs M2 us H2 O2 k2 R2 l2 i2 => ?_
    obtain ⟨e, rfl, k2⟩ := k2
    unfold ixT at k2
    split at k2
    · rename_i ns i en
      have jj := isXL_strong i2
      cases jj with
      | @cons u _ _ _ iu t =>
        cases t
        cases iu
        obtain ⟨e1, e2, e3⟩ := l2.1 rfl
        have l4 := l3.step (step_same e3 (A' := Av B M1 O1) fun b n => n)
        refine ⟨l, ns, i, rfl, rfl, by rw [← of_intsOf l4 en]; exact (TupK.same e3 hl).sq, k2.1, fin_v R2 (.int _) fun v3 H3 O3 R3 l5 i3 => k2.2 v3 H3 O3 R3 ((l1.trans l2.weak).trans l5.weak) i3⟩
    · exact k2.elim
  · exact k1.elim
end
/-! ### x += e, x.extend(e): x an own list, e a list -/
def gExt (i : Nat) (ge : GE) : GS := fun D r M => match r.sl[i]? with
  | some (.o (.lst ds)) => ge r M fun d M1 => match d with
    | .lst es => ds.length + es.length ≤ sizeLine ∧ D.nx (r.set i (.o (.lst (ds ++ es)))) M1
    | _ => False
  | _ => False
section
variable {X : Cx} {p wk : Bool} {e : Expr} {ge : GE} {pos : Pos}
theorem gExt_mono (hm : ∀ r M Q Q', (∀ d M', Q d M' → Q' d M') → ge r M Q → ge r M Q') (i : Nat) {D D' : DEnds} {r : Fr} {M : Mem} (l : ∀ r M, D.nx r M → D'.nx r M) (q : gExt i ge D r M) : gExt i ge D' r M := by
  unfold gExt at q ⊢
  split at q
  · refine hm _ _ _ _ (fun d M1 q1 => ?_) q
    split at q1
    · exact ⟨q1.1, l _ _ q1.2⟩
    · exact q1.elim
  · exact q.elim
theorem is1_lst {K : PySem.W.Frag} {A : Addr → Prop} {H : Hp} {v : V} {es : List D} (h : Is1 K A H v (.lst es)) : ∃ b zs, v = .ref b ∧ H b = some (.lst zs) ∧ IsL K A H zs es := h
theorem set_back {σ : L2.St} {i : Nat} {x : Option V} (h : σ[i]? = some x) : σ.set i x = σ := by
  refine List.ext_getElem? fun j => ?_
  rw [List.getElem?_set]
  split
  · rename_i e
    subst e
    have hl := (List.getElem?_eq_some_iff.mp h).1
    rw [if_pos hl, h]
  · rfl
theorem ds_iext (i : Nat) {x : Str} {pos' : Pos} (hN : X.N.Nodup) (he : DE wk p X e ge) (hi : X.N[i]? = some x := by rfl) (hx : Loc X.env.scope x := by first | exact Or.inl rfl | exact Or.inr rfl) (hf : X.fn x = true ∨ X.env.scope.names.lookup x = some .local := by first | exact .inl rfl | exact .inr rfl | assumption) :
    DS X (.AugAssign (.Name x pos') .Add e pos) (gExt i ge) := by
  refine ⟨psI (ps_aug hN hi hx he.run iop_ext hf) fun D σ H ⟨B, E, r, M, O, R, q⟩ => ?_, fun D D' r M l q => gExt_mono he.mono i l.nx q⟩
  unfold gExt at q
  split at q
  · rename_i ds er
    obtain ⟨x, e1, a, e2, ha, vs, e3, l3⟩ := R.slot er
    subst e2
    refine ⟨.ref a, e1, he.on R q fun d M1 v H1 O1 k1 R1 l1 i1 => ?_⟩
    split at k1
    · rename_i es
      obtain ⟨hz, k1⟩ := k1
      obtain ⟨b, zs, rfl, hb, lb⟩ := is1_lst i1.one
      obtain ⟨x', f1, a', f2, ha', vs', f3, l3'⟩ := R1.slot er
      rw [e1] at f1
      cases f1
      have f2 : some (V.ref a) = some (V.ref a') := f2
      cases f2
      refine ⟨a, b, vs', zs, rfl, rfl, f3, hb, by rw [l3'.length, lb.length]; exact hz, ?_⟩
      have s : Step (Av B M1 O1) H1 (Av B M1 O1) (upd H1 a (.lst (vs' ++ zs))) := fun b o eb nb => ⟨by
        rw [upd_ne (fun z => nb (by rw [z]; exact .inr (.inr (by rw [ha']; simp))))]; exact eb, nb⟩
      show D.nx (σ.set i (some (V.ref a))) _
      rw [set_back e1]
      exact k1 σ _ O1 (R1.mutO er e1 ha' ⟨vs' ++ zs, upd_same, (l3'.append lb).step s⟩)
    · exact k1.elim
  · exact q.elim
theorem ds_ext (i : Nat) {x : Str} {px apos cpos : Pos} (he : DE wk p X e ge) (hN : X.N[i]? = some x := by rfl) (hv : Vis X.env.scope x := by first | exact Or.inl rfl | exact Or.inr (Or.inl rfl) | exact Or.inr (Or.inr rfl)) (hd : (x == ("__debug__" : Str)) = false := by decide)
    (hcd : (x == ("__classdict__" : Str)) = false := by decide)
    (hbase : attributeBase (.Name x px) "extend" X.env (eval (.Name x px) X.env) = eval (.Name x px) X.env := by rfl)
    (hfew : ((backTo cpos (starEach [e] X.env)).all (fun x => !x.1) && (backToKw cpos (keywordEach [] X.env)).all (fun x => x.1.isSome)
      && decide ([e].length + ([] : List Keyword).length + (if ([] : List Keyword).isEmpty then 0 else 1) < 30)) = true := by rfl)
    (hline : (apos.endLine == cpos.line) = true := by rfl) (hs : starEach [e] X.env = (false, eval e X.env) :: starEach [] X.env := by rfl) (hplain : (backTo cpos (starEach [] X.env)).any (·.1) = false := by rfl)
    (hsw : swapsWith (.Call (.Attribute (.Name x px) "extend" apos) [e] [] cpos) none pos.line X.env = pure false := by rfl) :
    DS X (.Expr (.Call (.Attribute (.Name x px) "extend" apos) [e] [] cpos) pos) (gExt i ge) := by
  have he' := da_one (w := wk) he hs
  refine ⟨psI (ps_expr (pe_bm PySem.F.plainAttrs_list PySem.F.slot_list_extend PySem.F.type_list_extend mt_extend (pe_var (pos := px) hN hv hd hcd) he'.run hbase hfew hline hs hplain) hsw) fun D σ H ⟨B, E, r, M, O, R, q⟩ => ?_, fun D D' r M l q => gExt_mono he.mono i l.nx q⟩
  unfold gExt at q
  split at q
  · rename_i ds er
    obtain ⟨x, e1, a, e2, ha, vs, e3, l3⟩ := R.slot er
    subst e2
    refine ⟨.ref a, e1, .inl ⟨rfl, vs, SqL.of e3⟩, ?_⟩
    refine he'.on R (k := fun zs M1 => ∃ d, zs = [d] ∧ match d with
      | .lst es => ds.length + es.length ≤ sizeLine ∧ (LS X B E D).nx (r.set i (.o (.lst (ds ++ es)))) M1
      | _ => False) (he.mono _ _ _ _ (fun d M1 q1 => ⟨d, rfl, q1⟩) q) fun zs M1 us H1 O1 k1 R1 l1 i1 => ?_
    obtain ⟨d, rfl, k1⟩ := k1
    split at k1
    · rename_i es
      obtain ⟨hz, k1⟩ := k1
      cases us with
      | nil => exact i1.elim
      | cons v us' =>
        obtain ⟨i2, i3⟩ := i1
        cases us' with
        | cons _ _ => exact i3.elim
        | nil =>
          obtain ⟨b, zs, rfl, hb, lb⟩ := is1_lst i2.one
          obtain ⟨x', f1, a', f2, ha', vs', f3, l3'⟩ := R1.slot er
          rw [e1] at f1
          cases f1
          have f2 : some (V.ref a) = some (V.ref a') := f2
          cases f2
          refine ⟨a, b, vs', zs, rfl, rfl, f3, hb, by rw [l3'.length, lb.length]; exact hz, ?_⟩
          have s : Step (Av B M1 O1) H1 (Av B M1 O1) (upd H1 a (.lst (vs' ++ zs))) := fun b o eb nb => ⟨by
            rw [upd_ne (fun z => nb (by rw [z]; exact .inr (.inr (by rw [ha']; simp))))]; exact eb, nb⟩
          exact k1 σ _ O1 (R1.mutO er e1 ha' ⟨vs' ++ zs, upd_same, (l3'.append lb).step s⟩)
    · exact k1.elim
  · exact q.elim
end
/-! ### for x in o: .., o a list in memory that stands as it is at every turn -/
def loopDM (gt : GG) (gb : GS) (l : Addr) (all : List D) : List D → DEnds → Fr → Mem → Prop
  | [], D, r, M => M l = some (.om (.lst all)) ∧ D.nx r M
  | d :: ds, D, r, M => M l = some (.om (.lst all)) ∧ gt d r M fun r' M' => gb { D with nx := loopDM gt gb l all ds D, ct := loopDM gt gb l all ds D, bk := D.nx } r' M'
theorem loopDM_mono {gt : GG} {gb : GS} (ht : ∀ d r M Q Q', (∀ r' M', Q r' M' → Q' r' M') → gt d r M Q → gt d r M Q') (hb : MonoS gb) (l : Addr) (all : List D) : ∀ ds, MonoS (loopDM gt gb l all ds)
  | [] => fun D D' r M h q => ⟨q.1, h.nx _ _ q.2⟩
  | d :: ds => fun D D' r M h q => by
    have ih := loopDM_mono ht hb l all ds
    exact ⟨q.1, ht d r M _ _ (fun r' M' q1 => hb { D with nx := loopDM gt gb l all ds D, ct := loopDM gt gb l all ds D, bk := D.nx } _ r' M' ⟨fun r2 M2 q2 => ih D D' r2 M2 h q2, h.rt, fun r2 M2 q2 => h.nx _ _ q2, fun r2 M2 q2 => ih D D' r2 M2 h q2⟩ q1) q.2⟩
def gForM (go : GE) (gt : GG) (gb : GS) : GS := fun D r M => go r M fun d M1 => mlK d M1 fun l ds => loopDM gt gb l ds ds D r M1
section
variable {X : Cx} {p w : Bool} {tg o : Expr} {go : GE} {gt : GG} {pos : Pos}
theorem ds_forM {body : List Stmt} {gb : GS} {ws : List Nat} (hp : PassesOwn (model X.prog X.w) X.A X.env X.xe) (hc : X.calm = true) (ho : DE w p X o go) (hg : DT' X tg ws gt) (hb : DSs X body gb)
    (hs : ∀ x, foldedSetIterable o X.env x = pure x := by intro _; rfl) : DS X (.For tg o body [] pos) (gForM go gt gb) := by
  refine ⟨psI (ps_for hp hc (pi_seq ho.run) hg.p.run hb.run hs) fun D σ H ⟨B, E, r, M, O, R, q⟩ => ?_, fun D D' r M l q => ho.mono _ _ _ _ (fun d M1 q1 => mlK_mono (fun l2 ds q2 => loopDM_mono hg.p.mono hb.mono l2 ds ds D D' r M1 l q2) q1) q⟩
  refine ho.on R q fun d M1 v H1 O1 k1 R1 l1 i1 => ?_
  unfold mlK at k1
  split at k1
  case h_2 => exact k1.elim
  rename_i l
  have := is1_ref i1.one
  subst this
  split at k1
  case h_2 => exact k1.elim
  rename_i ds em
  obtain ⟨_, _, vs, e1, e2⟩ := R1.m.mem _ _ em
  refine ⟨l, vs, rfl, .inl ⟨SqL.of e1, ?_⟩⟩
  refine ⟨fun i m σ' H' => i + m = ds.length ∧ ∃ r' M' O', Rep X B (E.now H1 M1 O1) σ' H' r' M' O' ∧ loopDM gt gb l ds (ds.drop i) (LS X B E D) r' M',
    ⟨ds.length, by omega, r, M1, O1, R1.now, by rw [List.drop_zero]; exact k1⟩, fun i m σ' H' ⟨him, r', M', O', R', q'⟩ => ?_⟩
  have ml : M' l = some (.om (.lst ds)) := by
    generalize ds.drop i = rest at q'
    cases rest with
    | nil => exact q'.1
    | cons _ _ => exact q'.1
  obtain ⟨_, _, vs', f1, f2⟩ := R'.m.mem _ _ ml
  by_cases hlt : i < ds.length
  · right
    obtain ⟨d, hd⟩ : ∃ d, ds[i]? = some d := ⟨_, List.getElem?_eq_getElem hlt⟩
    obtain ⟨v, hv, iv⟩ := f2.get hd
    have hdrop : ds.drop i = d :: ds.drop (i + 1) := by
      rw [List.drop_eq_getElem_cons hlt]
      rw [List.getElem?_eq_getElem hlt] at hd
      cases hd
      rfl
    rw [hdrop] at q'
    refine ⟨⟨vs', v, SqL.of f1, hv⟩, fun σ2 H2 => ∃ r2 M2 O2, Rep X B (E.now H1 M1 O1) σ2 H2 r2 M2 O2 ∧ loopDM gt gb l ds (ds.drop (i + 1)) (LS X B E D) r2 M2, fun σ2 H2 h2 => ⟨m - 1, by omega, by omega, h2⟩, fun x H2 ⟨g1, g2⟩ => ?_⟩
    subst g1
    have e3 := g2 vs' (SqL.of f1)
    rw [hv] at e3
    cases e3
    refine ⟨B, E.now H1 M1 O1, r', M', O', d, R', iv, ?_⟩
    refine hg.p.mono _ _ _ _ _ (fun r3 M3 q3 => ?_) (hg.s _ _ _ _ q'.2)
    obtain ⟨⟨e3, _⟩, q3⟩ := q3
    subst e3
    refine ⟨rfl, fun σ3 _ R3 => ⟨B, E.now H1 M1 O1, r3, M3, O', R3, ?_⟩⟩
    refine hb.mono { LS X B E D with nx := loopDM gt gb l ds (ds.drop (i + 1)) (LS X B E D), ct := loopDM gt gb l ds (ds.drop (i + 1)) (LS X B E D), bk := (LS X B E D).nx } _ _ _ ⟨fun r4 M4 q4 σ4 H4 O4 R4 => ⟨r4, M4, O4, R4, q4⟩, fun d4 M4 q4 v4 H4 O4 h4 s4 i4 => q4 v4 H4 O4 h4 (R1.ent.trans s4) i4, fun r4 M4 q4 σ4 H4 O4 R4 => q4 σ4 H4 O4 (R1.then R4), fun r4 M4 q4 σ4 H4 O4 R4 => ⟨r4, M4, O4, R4, q4⟩⟩ q3
  · left
    have hn : ds.drop i = [] := List.drop_eq_nil_of_le (by omega)
    rw [hn] at q'
    exact ⟨⟨vs', SqL.of f1, by rw [f2.length]; omega⟩, q'.2 σ' H' O' (R1.then R')⟩
end
end DL

set_option Elab.async false
set_option linter.all false
set_option maxRecDepth 100000
/-! DL37: [.. for x in o], o a list in memory that stands as it is at every turn. -/
namespace DL
open PySem PySem.Spec PySem.W PyProof.Rows L2
def lcDM (l : Addr) (all : List D) (gt : GG) (gtt : GT) (ge : GE) (r : DL.Fr) : List D → List D → Mem → (List D → Mem → Prop) → Prop
  | [], acc, M, Q => M l = some (.om (.lst all)) ∧ Q acc M
  | d :: ds, acc, M, Q => M l = some (.om (.lst all)) ∧ gt d r M fun r1 M1 => gtt r1 M1 fun b M2 => if b = true then ge r1 M2 fun x M3 => acc.length < sizeLine ∧ lcDM l all gt gtt ge r ds (acc ++ [x]) M3 Q else lcDM l all gt gtt ge r ds acc M2 Q
theorem lcDM_mono {l : Addr} {all : List D} {gt : GG} {gtt : GT} {ge : GE} {r : DL.Fr} (ht : ∀ d r M Q Q', (∀ r' M', Q r' M' → Q' r' M') → gt d r M Q → gt d r M Q') (htt : ∀ r M Q Q', (∀ d M', Q d M' → Q' d M') → gtt r M Q → gtt r M Q') (he : ∀ r M Q Q', (∀ d M', Q d M' → Q' d M') → ge r M Q → ge r M Q') :
    ∀ ds acc M Q Q', (∀ a M', Q a M' → Q' a M') → lcDM l all gt gtt ge r ds acc M Q → lcDM l all gt gtt ge r ds acc M Q'
  | [], acc, M, Q, Q', h, q => ⟨q.1, h _ _ q.2⟩
  | d :: ds, acc, M, Q, Q', h, q => ⟨q.1, ht _ _ _ _ _ (fun r1 M1 q1 => htt _ _ _ _ (fun b M2 q2 => by
    cases b with
    | true => exact he _ _ _ _ (fun x M3 q3 => ⟨q3.1, lcDM_mono ht htt he ds _ _ _ _ h q3.2⟩) q2
    | false => exact lcDM_mono ht htt he ds _ _ _ _ h q2) q1) q.2⟩
def gLcM (go : GE) (gt : GG) (gtt : GT) (ge : GE) (vs : List Nat) : GF := fun r M Q => noOwn r vs = true ∧ go r M fun d M1 => mlK d M1 fun l ds => lcDM l ds gt gtt ge (wipeF r vs) ds [] M1 fun acc M2 => Q (.lst acc) M2
section
variable {X : Cx} {w p : Bool} {tg o elt : Expr} {go ge : GE} {gt : GG} {gtt : GT} {ifs : List Expr} {scope : Scope} {own : List (Str × Nat)} {ws : List Nat} {pos : Pos}
theorem di_memX (ho : DE w p X o go) : ∃ wi, PI X tg o wi ∧ ∀ B E σ H r M O (k : Addr → List D → Mem → Prop) R', Rep X B E σ H r M O → (go r M fun d M1 => mlK d M1 fun l ds => k l ds M1) → (∀ l ds M1 H1 O1, k l ds M1 → Rep X B E σ H1 r M1 O1 → Rl p M O H M1 O1 H1 → M1 l = some (.om (.lst ds)) → R' (Itl X.K l) H1) → wi σ H R' :=
  ⟨_, pi_seq ho.run, fun B E σ H r M O k R' R q hR => by
    refine ho.on R q fun d M1 v H1 O1 k1 R1 l1 i1 => ?_
    unfold mlK at k1
    split at k1
    · rename_i l
      have := is1_ref i1.one
      subst this
      split at k1
      · rename_i ds em
        obtain ⟨_, _, vs, e1, e2⟩ := R1.m.mem _ _ em
        exact ⟨l, vs, rfl, .inl ⟨SqL.of e1, hR l ds M1 H1 O1 k1 R1 l1 em⟩⟩
      · exact k1.elim
    · exact k1.elim⟩
theorem lcM_imp {ws vs : List Nat} {wi : TI} (hwi : ∀ B E σ H r M O (k : Addr → List D → Mem → Prop) R', Rep X B E σ H r M O → (go r M fun d M1 => mlK d M1 fun l ds => k l ds M1) → (∀ l ds M1 H1 O1, k l ds M1 → Rep X B E σ H1 r M1 O1 → Rl p M O H M1 O1 H1 → M1 l = some (.om (.lst ds)) → R' (Itl X.K l) H1) → wi σ H R')
    (hgm : ∀ d r M Q Q', (∀ r' M', Q r' M' → Q' r' M') → gt d r M Q → gt d r M Q') (htm : ∀ r M Q Q', (∀ d M', Q d M' → Q' d M') → gtt r M Q → gtt r M Q') (hem : ∀ r M Q Q', (∀ d M', Q d M' → Q' d M') → ge r M Q → ge r M Q') (hgs : SameM ws gt)
    (hws : ∀ j ∈ ws, j ∈ vs) (σ : L2.St) (H : Hp) (Q : VK) (hh : ∃ B E r M O, Rep X B E σ H r M O ∧ gLcM go gt gtt ge vs r M (fun m M' => ∀ a H' O', New X B E σ H' r M' O' a → Rl p M O H M' O' H' → OOk X.K (Up (Av B M' O') a) H' a m → Q (.ref a) H')) :
    tLc wi (uG X.K ws gt) (uT p X.K gtt) (uE p X.K ge) vs σ H Q := by
  obtain ⟨B, E, r, M, O, R, hno, q⟩ := hh
  refine hwi B E σ H r M O (fun l ds M1 => lcDM l ds gt gtt ge (wipeF r vs) ds [] M1 _) _ R q fun l ds M1 H1 O1 k1 R1 l1 ml1 => ?_
  intro a n
  refine ⟨fun i m H2 => i + m = ds.length ∧ ∃ M2 O2 acc vs', New X B E σ H2 r M2 O2 a ∧ H2 a = some (.lst vs') ∧ IsL X.K (Up (Av B M2 O2) a) H2 vs' acc ∧ Rl p M1 O1 H1 M2 O2 H2 ∧ lcDM l ds gt gtt ge (wipeF r vs) (ds.drop i) acc M2 (fun acc' M' =>
      ∀ a' H' O', New X B E σ H' r M' O' a' → Rl p M O H M' O' H' → OOk X.K (Up (Av B M' O') a') H' a' (.lst acc') → Q (.ref a') H'),
    ⟨ds.length, by omega, M1, O1, [], [], New.of R1 n, upd_same, .nil, Rl.of_same (same_upd n), by rw [List.drop_zero]; exact k1⟩, fun i m H2 ⟨him, M2, O2, acc, vs', N2, e2, i2, l2, q2⟩ => ?_⟩
  have ml : M2 l = some (.om (.lst ds)) := by
    generalize ds.drop i = rest at q2
    cases rest with
    | nil => exact q2.1
    | cons _ _ => exact q2.1
  obtain ⟨_, _, vsl, f1, f2⟩ := N2.m.mem _ _ ml
  rw [av_up] at f2
  by_cases hlt : i < ds.length
  · right
    obtain ⟨d, hd⟩ : ∃ d, ds[i]? = some d := ⟨_, List.getElem?_eq_getElem hlt⟩
    obtain ⟨vd, hvd, ivd⟩ := f2.get hd
    have hdrop : ds.drop i = d :: ds.drop (i + 1) := by
      rw [List.drop_eq_getElem_cons hlt]
      rw [List.getElem?_eq_getElem hlt] at hd
      cases hd
      rfl
    rw [hdrop] at q2
    have ha2 : H2 a ≠ none := by rw [e2]; exact fun z => nomatch z
    refine ⟨⟨vsl, vd, SqL.of f1, hvd⟩, fun H3 => ∃ M2 O2 acc vs', New X B E σ H3 r M2 O2 a ∧ H3 a = some (.lst vs') ∧ IsL X.K (Up (Av B M2 O2) a) H3 vs' acc ∧ Rl p M1 O1 H1 M2 O2 H3 ∧ lcDM l ds gt gtt ge (wipeF r vs) (ds.drop (i + 1)) acc M2 (fun acc' M' =>
      ∀ a' H' O', New X B E σ H' r M' O' a' → Rl p M O H M' O' H' → OOk X.K (Up (Av B M' O') a') H' a' (.lst acc') → Q (.ref a') H'), fun H3 h3 => ⟨m - 1, by omega, by omega, h3⟩, fun x H3 ⟨g1, g2⟩ => ?_⟩
    subst g1
    have e7 := g2 vsl (SqL.of f1)
    rw [hvd] at e7
    cases e7
    have sm : Same H3 H3 := Same.refl _
    have ix := ivd
    -- the state at the turn's begin
    have N3 : New X B E σ H3 r M2 O2 a := N2.same sm
    have R3 : RepK X.K (Bp B a) (En.blk H3 M2 O2) (wipe σ vs) H3 (wipeF r vs) M2 O2 := (New.blk (X' := X) rfl N3 vs).k ⟨rfl, rfl⟩
    have e3 : H3 a = some (.lst vs') := sm _ _ e2
    have ha3 : H3 a ≠ none := by rw [e3]; exact fun z => nomatch z
    have i3 : IsL X.K (Up (Av B M2 O2) a) H3 vs' acc := i2.step (step_same sm fun _ z => z)
    have l3 : Rl p M1 O1 H1 M2 O2 H3 := l2.trans (Rl.of_same sm)
    have na : ¬ Mut M2 O2 a := fun z => N3.nav (.inr z)
    refine ⟨Bp B a, En.blk H3 M2 O2, wipeF r vs, M2, O2, d, R3, by rw [av_up]; exact ix, ?_⟩
    refine hgm _ _ _ _ _ (fun r4 M4 q4 => ?_) (hgs _ _ _ _ q2.2)
    obtain ⟨⟨e4, f4⟩, q4⟩ := q4
    subst e4
    refine ⟨⟨rfl, f4⟩, fun σ4 o4 R4 => ⟨wipe_same o4 hws, Bp B a, En.blk H3 M4 O2, r4, M4, O2, R4, ?_⟩⟩
    refine htm _ _ _ _ (fun b M5 q5 H5 O5 R5 l5 => ?_) q4
    have N5 : New X B E σ H5 r M5 O5 a := N3.turn (X' := X) rfl hws hno o4 f4 l5 R5.rep ha3
    have e5 : H5 a = some (.lst vs') := (l5.2 a _ e3 na).1
    have i5 : IsL X.K (Up (Av B M5 O5) a) H5 vs' acc := i3.step (step_up l5.avs)
    cases b with
    | false =>
      rw [if_neg Bool.false_ne_true] at q5
      refine iteF ?_
      exact ⟨M5, O5, acc, vs', N5, e5, i5, l3.trans l5, q5⟩
    | true =>
      rw [if_pos rfl] at q5
      refine iteT ?_
      refine ⟨Bp B a, En.blk H3 M4 O2, r4, M5, O5, R5, ?_⟩
      refine hem _ _ _ _ (fun y M6 q6 v6 H6 O6 R6 l6 i6 => ?_) q5
      have l56 := l5.trans l6
      have N6 : New X B E σ H6 r M6 O6 a := N3.turn (X' := X) rfl hws hno o4 f4 l56 R6.rep ha3
      have e6 : H6 a = some (.lst vs') := (l56.2 a _ e3 na).1
      have i6' : IsL X.K (Up (Av B M6 O6) a) H6 vs' acc := i3.step (step_up l56.avs)
      have ha6 : H6 a ≠ none := by rw [e6]; exact fun z => nomatch z
      rw [av_up] at i6
      refine ⟨vs', e6, by rw [i6'.length]; exact q6.1, M6, O6, acc ++ [y], vs' ++ [v6], N6.put ha6, upd_same, ?_, (l3.trans l56).put n, q6.2⟩
      have s : Step (Up (Av B M6 O6) a) H6 (Up (Av B M6 O6) a) (upd H6 a (.lst (vs' ++ [v6]))) := fun b o e nb => ⟨by rw [upd_ne (fun z => nb (.inr z))]; exact e, nb⟩
      exact (i6'.append (.cons i6 .nil)).step s
  · left
    have hn : ds.drop i = [] := List.drop_eq_nil_of_le (by omega)
    rw [hn] at q2
    exact ⟨⟨vsl, SqL.of f1, by rw [f2.length]; omega⟩, q2.2 a H2 O2 N2 (l1.trans l2) ⟨vs', e2, i2⟩⟩
theorem df_compMM (hc : X.calm = true) (hN : X.N.Nodup) (ho : DE w p X o go) (ok : BlkOk X.N X.env.scope scope own)
    (hg : ∀ (s : Shared) (H : Hp) (C : Addr) (cl : List (Str × Addr)) (fp : List Addr), DT' (X.blk s H scope (compEnvC scope cl C X.env) fp) tg ws gt)
    (ht : ∀ (s : Shared) (H : Hp) (C : Addr) (cl : List (Str × Addr)) (fp : List Addr), DTts p (X.blk s H scope (compEnvC scope cl C X.env) fp) ifs gtt)
    (he : ∀ (s : Shared) (H : Hp) (C : Addr) (cl : List (Str × Addr)) (fp : List Addr), DE true p (X.blk s H scope (compEnvC scope cl C X.env) fp) elt ge)
    (hws : ∀ j ∈ ws, j ∈ own.map (·.2) := by decide) (hs : ∀ x, foldedSetIterable o X.env x = pure x := by intro _; rfl) : DF p X (.ListComp elt [⟨tg, o, ifs, 0⟩] scope pos) (gLcM go gt gtt ge (own.map (·.2))) := by
  have hgm := (hg X.s_0 X.H_0 0 [] []).p.mono
  have htm := (ht X.s_0 X.H_0 0 [] []).mono
  have hem := (he X.s_0 X.H_0 0 [] []).mono
  have hgs := (hg X.s_0 X.H_0 0 [] []).s
  obtain ⟨wi, hpi, hwi⟩ := di_memX (tg := tg) ho
  exact ⟨peI (pe_lc (te := uE p X.K ge) (tt := uT p X.K gtt) (g := uG X.K ws gt) hc hN hpi ok (fun s H C cl fp => (hg s H C cl fp).u) (fun s H C cl fp => (ht s H C cl fp).u) (fun s H C cl fp => (he s H C cl fp).u) hs) (lcM_imp hwi hgm htm hem hgs hws),
    fun r M Q Q' h q => ⟨q.1, ho.mono _ _ _ _ (fun d M1 q1 => mlK_mono (fun l ds q2 => lcDM_mono hgm htm hem ds _ _ _ _ (fun a M' q2 => h _ _ q2) q2) q1) q.2⟩⟩
end
theorem lcM_mp {l : Addr} {all : List D} {gt : GG} {ge : GE} {r : DL.Fr} {M : Mem} {Q : List D → Mem → Prop} {α : Type} {enc f : α → D} {xs : List α} {acc : List D} (ml : M l = some (.om (.lst all))) (h : ∀ x ∈ xs, ∀ Q' : D → Mem → Prop, Q' (f x) M → gt (enc x) r M fun r1 M1 => ge r1 M1 Q') (hz : acc.length + xs.length ≤ sizeLine) (q : Q (acc ++ xs.map f) M) :
    lcDM l all gt gYes ge r (xs.map enc) acc M Q := by
  induction xs generalizing acc with
  | nil =>
    refine ⟨ml, ?_⟩
    simpa using q
  | cons x xs ih =>
    have hz' : acc.length + (xs.length + 1) ≤ sizeLine := hz
    refine ⟨ml, h x (List.mem_cons_self ..) _ ⟨by omega, ih (fun y hy => h y (List.mem_cons_of_mem _ hy)) ?_ ?_⟩⟩
    · rw [List.length_append, List.length_cons, List.length_nil]; omega
    · rw [List.append_assoc]; exact q
end DL

set_option Elab.async false
set_option linter.all false
set_option maxRecDepth 100000
set_option maxHeartbeats 2000000
/-! DL38: a caught exception, kept as a value. -/
namespace L2
open PySem PySem.Spec PyProof.Rows
/-- a caught exception of the class cls, at a -/
def ExC (cls : Value) (a : Addr) : HO := .ext fun h => ∃ (oe : Obj) (vs : Array Value), h.get? a = some oe ∧ Zc cls none oe ∧ oe.data = .fields vs
theorem exC_ok {P : Program} {w : World} {H : Hp} {h : Heap} {a : Addr} {cls : Value} {oe : Obj} {vs : Array Value} (e : h.get? a = some oe) (z : Zc cls none oe) (d : oe.data = .fields vs) : ObjOk P w H h a (ExC cls a) :=
  ⟨⟨oe, vs, e, z, d⟩, ⟨oe, e⟩, fun _ _ ⟨o, v, q, r⟩ k => ⟨o, v, k o q, r⟩⟩
section
variable {X : Cx} {pins : List (Addr × Obj)} {σ : St} {H : Hp} {s : Shared}
/-- an object that nobody knew at the entry is tracked from here on -/
theorem Inv.track {a : Addr} {u : HO} {oe : Obj} {vs : Array Value} (I : Inv X pins σ H s) (he : s.heap.get? a = some oe) (hd : oe.data = .fields vs) (ha : H a = none) (nL : a ≠ X.env.locals) (n0 : X.s_0.heap.get? a = none)
    (np : ∀ p ∈ X.pn ++ pins, p.1 ≠ a) (new : ObjOk X.prog X.w (upd H a u) s.heap a u) : Inv X pins σ (upd H a u) s where
  ok := I.ok
  os := I.os
  bare := I.bare
  base := {
    keep := I.base.keep
    slot := I.base.slot
    free := fun b o e n x => by
      rw [upd_ne fun z => by rw [z, n0] at e; cases e]
      exact I.base.free b o e n x
    there := I.base.there
    tups := fun b xs q => by
      have q2 := I.base.tups b xs q
      rw [upd_ne (ne_of_none q2 ha)]; exact q2
    frzs := fun b o w q => by
      have q2 := I.base.frzs b o w q
      rw [upd_ne (ne_of_none q2 ha)]; exact q2
    tbls := fun b ps q => by
      obtain ⟨more, q2⟩ := I.base.tbls b ps q
      exact ⟨more, by rw [upd_ne (ne_of_none q2 ha)]; exact q2⟩ }
  loc := I.loc
  cell := I.cell
  free := by rw [upd_ne (Ne.symm nL)]; exact I.free
  freeC := fun x c e => by
    obtain ⟨v, o, ho, hc⟩ := I.cell x c e
    rw [upd_ne fun z => by rw [z, he] at ho; cases ho; rw [hd] at hc; cases hc]
    exact I.freeC x c e
  pin := fun p hp => by
    obtain ⟨h1, h2, h3⟩ := I.pin p hp
    exact ⟨h1, by rw [upd_ne (np p hp)]; exact h2, h3⟩
  hok := I.hok.laidN (fun _ _ q => q) ha new
  len := I.len
end
/-- as wAs, the exception kept -/
def wExc (K : PySem.W.Frag) (c : Value) (i : Nat) (ts : Addr → Value → Option Addr → TS) (Wout : WX) (D : Ends) : WX := fun cls d σ H =>
  ∃ b, PySem.W.exmOne K cls c = some b ∧ (b = true → d = none ∧ ∀ a, H a = none → ts a cls d { nx := fun σ' H' => D.nx (σ'.set i none) (upd H' a (ExC cls a)), rt := D.rt, bk := fun σ' H' => D.bk (σ'.set i none) (upd H' a (ExC cls a)), ct := fun σ' H' => D.ct (σ'.set i none) (upd H' a (ExC cls a)) } (σ.set i (some (.ref a))) H) ∧
    (b = false → Wout cls d σ H)
section
variable {X : Cx} {x n : Str} {c : Value} {i : Nat} {body suite : List Stmt} {b₀ : Stmt} {np pos pos' : Pos} {tb : WX → TS} {ts : Addr → Value → Option Addr → TS} {Wout : WX}
theorem ps_try_exc (hex : X.ex = []) (hs : X.stack = X.env :: X.outer) (hf : X.env.frame = some X.env.locals) (hN : X.N.Nodup) (hi : X.N[i]? = some n) (hln : X.env.kindOf n = some .local) (hc : Names X x c) (tk : Takes X Wout)
    (hb : ∀ (W : WX) (pn : List (Addr × Obj)) (xe : Value → Shared → Prop), Takes (X.tr pn xe) W → PassesOwn (model X.prog X.w) X.A X.env xe → PSs (X.tr pn xe) body (tb W))
    (hsu : ∀ (a : Addr) (oe : Obj) (cls : Value) (d : Option Addr) (pn : List (Addr × Obj)), Zc cls d oe → (∃ vs, oe.data = .fields vs) → PSs (X.suite a ((a, oe) :: pn)) (b₀ :: suite) (ts a cls d)) :
    PS X (.Try body [.ExceptHandler (some (.Name x np)) (some n) (b₀ :: suite) pos'] [] [] pos) (fun D σ H => tb (wExc X.K c i ts Wout D) D σ H) := by
  refine ⟨fun pins s σ H D I h => ?_⟩
  have ok := I.ok
  have hfr : X.A.frames = some (X.env :: X.outer) := by rw [ok.frames, hs]
  have hloc : Loc X.env.scope n := .inl hln
  refine wpAny_Try_except ?_
  refine wpAny_mono ((hb (wExc X.K c i ts Wout D) (X.pn ++ pins) (fun e s₁ => wpAny (model X.prog X.w) X.A (noteFrame e X.env) (fun _ s₂ => wpAny (model X.prog X.w) X.A (setFlight e none) (fun _ s₃ =>
    wpAny (model X.prog X.w) X.A (handleBy e X.env [.ExceptHandler (some (.Name x np)) (some n) (b₀ :: suite) pos']) (SP X pins D) X.xe s₃) X.xe s₂) X.xe s₁) (fun u s' xx => ?_) PassesOwn.looking).run [] s σ H D (I.toTry _) h) (fun f s1 hsp => ?_) (fun e s1 he => he)
  · -- the catch
    obtain ⟨a, B, sI, pins', σ', H', cls, d, rfl, J', nb, up, sky, na, os, ag, b, hb1, hyes, hno⟩ := xx
    have J : Inv X pins σ' H' sI := J'.ofTry ok
    have sky' : Sky B (X.env :: X.outer) a (Zc cls d) X.env.locals s'.heap := by rw [← hs]; exact sky
    show wpAny (model X.prog X.w) X.A (noteFrame (.ref a) X.env) _ _ _
    refine Sky.land Zc.steady hfr hf sky' fun h3 fl3 up3 => ?_
    have J3 : Inv X pins σ' H' { s' with heap := h3 } := J.landed nb fl3.1 (up.trans up3) os ag
    obtain ⟨oe3, vs3, he3, hz3, hd3⟩ := fl3.there
    have notFr : ∀ {h : Heap} {o : Obj} {vs : Array Value}, h.FunFrames B (X.env :: X.outer) → h.get? a = some o → o.data = .fields vs → a ∉ frs (X.env :: X.outer) := fun {h o vs} ff e dd hm => by
      obtain ⟨_, o', e', hnf⟩ := ff.mem hm
      rw [e] at e'; cases e'
      exact hnf _ dd
    have nfr := notFr fl3.2.2.1 he3 hd3
    have nL : a ≠ X.env.locals := fun z => nfr (List.mem_filterMap.mpr ⟨X.env, List.mem_cons_self, by rw [hf, z]⟩)
    have nF : a ∉ X.fs := fun hm => by
      obtain ⟨e, he, q⟩ := List.mem_filterMap.mp hm
      exact nfr (List.mem_filterMap.mpr ⟨e, List.mem_cons_of_mem _ he, q⟩)
    have S3 := J3.suite he3 hd3 na nL nF
    refine wpAny_handleBy_cons (codeAny_handlers_test ?_) (by intro q; cases q)
    have LT : PySem.W.Looks (model X.prog X.w) h3 (typeOf (.ref a)) cls := fun A Q E s k q => wpAny_typeOf_ref (k _ _ he3) (by rw [hz3.1]; exact q)
    have LM := PySem.W.exm_one (M := model X.prog X.w) (J3.kIn) LT hb1
    have test : ∀ {Q : Value → Shared → Prop} {E : Value → Shared → Prop}, Q c { s' with heap := h3 } → wpAny (model X.prog X.w) (X.A.mark (some (.ref a))) (eval (.Name x np) X.env) Q E { s' with heap := h3 } := fun {Q E} q => by
      obtain ⟨hg, hdbg, hm | ⟨hm, hv, hnn⟩⟩ := hc
      · exact ld_glob (X := X.suite a ((a, oe3) :: (X.pn ++ pins))) S3 hg hm q hdbg
      · exact ld_blt (X := X.suite a ((a, oe3) :: (X.pn ++ pins))) S3 hg hm hv q hnn hdbg
    refine test (LM.here ?_)
    cases b with
    | true =>
      obtain ⟨hd0, hyes⟩ := hyes rfl
      subst hd0
      refine codeAny_handlers_suite_as ?_
      refine HandSPX.lands_againZ fl3 fun h4 fl4 up4 => ?_
      have J4 : Inv X pins σ' H' { s' with heap := h4 } := J.landed nb fl4.1 ((up.trans up3).trans up4) os ag
      obtain ⟨oe4, vs4, he4, hz4, hd4⟩ := fl4.there
      have S4 := J4.suite he4 hd4 na nL nF
      refine store_ok (X := X.suite a ((a, oe4) :: (X.pn ++ pins))) (v := .ref a) S4 hN hi hloc rfl (fun s5 S5 => ?_) (.inr hln)
      refine wpAny_mono ((hsu a oe4 cls none (X.pn ++ pins) hz4 ⟨_, hd4⟩).run [] s5 _ H' _ S5 (hyes a na)) (fun f s6 hsp => ?_) (fun _ _ z => False.elim z)
      have npI : sI.heap.get? a = none := by
        cases eI : sI.heap.get? a with
        | none => rfl
        | some oI =>
          have := nb a oI eI (by rw [hs]; exact nfr)
          rw [fl3.2.1] at this
          cases this
      have n0 : X.s_0.heap.get? a = none := by
        cases e0 : X.s_0.heap.get? a with
        | none => rfl
        | some o0 =>
          obtain ⟨o1, e1⟩ := J.base.there a o0 e0 (by rw [hex]; exact List.not_mem_nil)
          rw [npI] at e1
          cases e1
      have np : ∀ p ∈ X.pn ++ pins, p.1 ≠ a := fun p hp z => by
        have := (J.pin p hp).1
        rw [z, npI] at this
        cases this
      have endT : ∀ {σ6 : St} {H6 : Hp} {Q : Shared → Prop}, Inv (X.suite a ((a, oe4) :: (X.pn ++ pins))) [] σ6 H6 s6 → (∀ s7, Inv X pins (σ6.set i none) (upd H6 a (ExC cls a)) s7 → Q s7) →
          wpAny (model X.prog X.w) X.A (do bindName X.env n .none; unbindBehindTheSuite X.env n pos') (fun _ s7 => Q s7) X.xe s6 := fun {σ6 H6 Q} S6 hq => by
        obtain ⟨p1, p2, p3, p4, p5⟩ := S6.pin (a, oe4) (by rw [List.append_nil]; exact List.mem_cons_self ..)
        exact gone_ok ((S6.unsuite ok).track p1 hd4 p2 p3 n0 np (exC_ok p1 hz4 hd4)) hN hi hln hq
      have end_ : ∀ {σ6 : St} {H6 : Hp} {Q : Shared → Prop}, Inv (X.suite a ((a, oe4) :: (X.pn ++ pins))) [] σ6 H6 s6 → (∀ s7, Inv X pins (σ6.set i none) H6 s7 → Q s7) →
          wpAny (model X.prog X.w) X.A (do bindName X.env n .none; unbindBehindTheSuite X.env n pos') (fun _ s7 => Q s7) X.xe s6 := fun {σ6 H6 Q} S6 hq => gone_ok (S6.unsuite ok) hN hi hln hq
      cases f with
      | next =>
        obtain ⟨σ6, H6, S6, q6⟩ := hsp
        exact endT S6 fun s7 J7 => ⟨_, _, J7, q6⟩
      | brk =>
        obtain ⟨σ6, H6, S6, q6⟩ := hsp
        exact endT S6 fun s7 J7 => ⟨_, _, J7, q6⟩
      | cont =>
        obtain ⟨σ6, H6, S6, q6⟩ := hsp
        exact endT S6 fun s7 J7 => ⟨_, _, J7, q6⟩
      | ret u =>
        obtain ⟨v6, σ6, H6, S6, r6, q6⟩ := hsp
        exact end_ S6 fun s7 J7 => ⟨_, _, _, J7, r6, q6⟩
    | false =>
      show wpAny _ X.A (handleBy (.ref a) X.env []) _ _ _
      refine wpAny_handleBy_nil ?_
      obtain ⟨k1, k2, k3, oe, vs, T, oT, ts', he, hz, hd, h1, hr⟩ := id fl3
      unfold PySem.passOn
      refine wpAny_bind (wpAny_field he hd h1 ?_)
      rw [if_neg (show ¬ ((Value.ref T == Value.none) = true) from by simp)]
      have fin : wpAny (model X.prog X.w) X.A (setFlight (.ref a) X.env.frame) (fun _ s4 => wpAny (model X.prog X.w) X.A (throw (.ref a) : Sem Flow) (SP X pins D) X.xe s4) X.xe { s' with heap := h3 } := by
        rw [hf]
        refine HandSPX.setFlight_upZ fl3 fun h4 hh4 up4 => wpAny_throw (tk _ _ ?_)
        exact ⟨a, B, sI, pins, σ', H', cls, d, rfl, J, nb, (up.trans up3).trans up4, .inr (.inr (by rw [hs]; exact hh4)), na, os, ag, hno rfl⟩
      first
        | exact wpAny_bind (wpAny_pure (wpAny_bind fin))
        | exact wpAny_bind fin
  · cases f with
    | next =>
      obtain ⟨σ', H', J', q⟩ := hsp
      exact wpAny_execs_nil ⟨σ', H', J'.ofTry ok, q⟩
    | brk =>
      obtain ⟨σ', H', J', q⟩ := hsp
      exact ⟨σ', H', J'.ofTry ok, q⟩
    | cont =>
      obtain ⟨σ', H', J', q⟩ := hsp
      exact ⟨σ', H', J'.ofTry ok, q⟩
    | ret u =>
      obtain ⟨v, σ', H', J', r, q⟩ := hsp
      exact ⟨v, σ', H', J'.ofTry ok, r, q⟩
end
end L2

set_option Elab.async false
set_option linter.all false
set_option maxRecDepth 100000
set_option maxHeartbeats 2000000
/-! DL39: try: x = a call / except C as e: y = e. -/
namespace DL
open PySem PySem.Spec PySem.W PyProof.Rows L2
section
variable {X : Cx} {B : Addr → Prop} {E : En} {σ : L2.St} {H H' : Hp} {r : DL.Fr} {M M' : Mem} {O O' : Own} {p w : Bool} {ks : List AK}
def nox : Addr → Mem → Prop := fun _ _ => False
def En.mute (E : En) : En := { E with X := nox, W := fun _ _ => False }
def Fr.mute (r : DL.Fr) : DL.Fr := { r with ex := nox }
theorem takes_false : Takes X (fun cls d _ H => xk (fun _ _ => False) cls d H) := fun u s' ⟨_, _, _, _, _, _, _, _, _, _, _, _, _, _, _, _, ⟨_, _, _, z⟩⟩ => z.elim
theorem Rep.mute (R : Rep X B E σ H r M O) (pn : List (Addr × Obj)) (xe : Value → Shared → Prop) : Rep (X.tr pn xe) B E.mute σ H (Fr.mute r) M O :=
  ⟨R.m, R.len, R.sl, R.ent, R.sub, fun _ _ _ _ _ _ z => z.elim, takes_false, rfl⟩
theorem Rep.unmute (R : Rep X B E σ H r M O) {pn : List (Addr × Obj)} {xe : Value → Shared → Prop} (R' : Rep (X.tr pn xe) B E.mute σ H' (Fr.mute r) M' O') : Rep X B E σ H' r M' O' :=
  ⟨R'.m, R'.len, R'.sl, R'.ent, R'.sub, R.exc, R.lk, R.xe⟩
abbrev GX := DL.Fr → Mem → (D → Mem → Prop) → (Addr → Mem → Prop) → Prop
/-- an expression that may raise: what is wanted of that is told apart -/
structure TrX (X : Cx) (e : Expr) (gx : GX) : Prop where
  run : ∀ (pn : List (Addr × Obj)) (xe : Value → Shared → Prop) (pins : List (Addr × Obj)) (s : Shared) (σ : L2.St) (H : Hp) (Q : VK) (Wc : Addr → Hp → Prop), Inv (X.tr pn xe) pins σ H s →
    (∀ (pins1 : List (Addr × Obj)) (H1 : Hp) (s1 : Shared) (u : Value) (s' : Shared), Inv (X.tr pn xe) pins1 σ H1 s1 → L2.CX X.prog X.w X.stack H1 s1 (xk Wc) u s' → xe u s') →
    ∀ B E r M O (Xc : Addr → Mem → Prop), Rep (X.tr pn xe) B E σ H r M O → gx r M (fun d M' => ∀ v H' O', Rep (X.tr pn xe) B E σ H' r M' O' → Is X.K (Av B M' O') H' v d → Q v H') Xc →
    (∀ C M' H' O', Rep (X.tr pn xe) B E σ H' r M' O' → Xc C M' → Wc C H') → wpAny (model X.prog X.w) X.A (eval e X.env) (EP (X.tr pn xe) pins σ Q) xe s
  mono : ∀ r M Q Q' Xc Xc', (∀ d M', Q d M' → Q' d M') → (∀ C M', Xc C M' → Xc' C M') → gx r M Q Xc → gx r M Q' Xc'
theorem run_fgX {n : Nat} {f : Addr} {fd : FuncData} {ps : List Str} {sp : Sp} {Ex : XK} {pins : List (Addr × Obj)} {s : Shared} {Q : VK} {us : List Value} {vs : List V} (F : FnG X.prog X.w X.K X.mg X.base n f fd ps sp) (hr : Room n X.A) (hgd : X.A.guards = some [])
    (hb : Binds X.K fd ps []) (hx : ∀ e s', L2.CX X.prog X.w X.stack H s Ex e s' → X.xe e s') (I : Inv X pins σ H s) (rv : Vals vs us) (h : sp vs H Q Ex) : wpAny (model X.prog X.w) X.A (call (.ref f) us) (EP X pins σ Q) X.xe s := by
  have hlen : (us ++ []).length = ps.length := by rw [List.append_nil, ← rv.length]; exact F.len _ _ _ _ h
  have hbd := hb s us I.kIn hlen
  rw [List.append_nil] at hbd
  refine wpAny_call (codeAny_mono (F.run X.A X.stack s H ⟨us, []⟩ us vs Q Ex hr hgd I.env0 hbd rv h) fun r s' hq => ?_)
  cases r with
  | error e => exact hx e s' hq
  | ok fl =>
    cases fl with
    | ret u => exact I.after hq
    | next => exact hq.elim
    | brk => exact hq.elim
    | cont => exact hq.elim
theorem callP_preX {fs : FS} (R : Rep X B E σ H r M O) {vs : List V} {ds : List D} (ha : ArgsX X.K (Av B M O) (Mut M O) H ks vs ds) {Q : VK} {Wc : Addr → Hp → Prop} {Xc : Addr → Mem → Prop}
    (h : fs ds M0 (fun d _ => ∀ v H' O', Rep X B E σ H' r M O' → Is X.K (Av B M O') H' v d → Q v H') fun C _ => Xc C M) (hW : ∀ C H' O', Rep X B E σ H' r M O' → Xc C M → Wc C H') (hmf : MonoF fs) : toSp X.K ks fs vs H Q (xk Wc) := by
  refine ⟨Av B M O, M0, O0, ds, ⟨fun a mo e => (nomatch e), fun a w e => (nomatch e), fun a z n => R.m.fresh n z⟩, fun a i z => (nomatch z), by rw [av0]; exact argsOk0 ha, ?_⟩
  have sm : ∀ {H' : Hp} {M' : Mem} {O' : Own}, Step (Mut M0 O0) H (Mut M' O') H' → Same H H' := fun s a o e => (s a o e (mut0 a)).1
  refine hmf _ _ _ _ _ _ (fun d M' q v H' O' h1 h2 h3 h4 => ?_) (fun C M' q H' O' h1 h2 h3 => ?_) h
  · exact q v H' O (R.same (sm h3)) (h4.step (step_id fun b _ n z => n (.inl z)))
  · exact ⟨C, rfl, rfl, hW C H' O (R.same (sm h3)) q⟩
theorem callM_preX {fs : FS} (R : Rep X B E σ H r M O) {vs : List V} {ds : List D} (hk : vks ks = true) (ha : ArgsX X.K (Av B M O) (Mut M O) H ks vs ds) {Q : VK} {Wc : Addr → Hp → Prop} {Xc : Addr → Mem → Prop}
    (h : fs ds M (fun d M' => ∀ v H' O', Rep X B E σ H' r M' O' → Is X.K (Av B M' O') H' v d → Q v H') Xc) (hW : ∀ C M' H' O', Rep X B E σ H' r M' O' → Xc C M' → Wc C H') (hmf : MonoF fs) : toSp X.K ks fs vs H Q (xk Wc) := by
  refine ⟨Bs B O, M, drops O, ds, ?_, drops_flds O, by rw [av_bs]; exact argsOkM (fun b z => mut_drops b z) hk ha, ?_⟩
  · refine ⟨fun b mo e => ?_, fun b w e => ?_, fun b z => ?_⟩
    · obtain ⟨h1, h2, h3⟩ := R.m.mem b mo e
      refine ⟨fun z => z.elim h1 fun ⟨i, hi⟩ => (by rw [hi] at h2; cases h2), by unfold drops; rw [h2], ?_⟩
      rw [av_bs]
      exact h3.stepS (Step.refl _ _) (fun _ e => e) fun l f q => ⟨by unfold drops; rw [q], fun _ e => e⟩
    · unfold drops at e
      split at e
      · rename_i q
        cases e
        obtain ⟨h1, h2⟩ := R.m.own b _ q
        exact ⟨fun z => z.elim h1 fun ⟨i, hi⟩ => (by rw [hi] at q; cases q), h2⟩
      · cases e
    · rcases z with z | ⟨i, hi⟩
      · exact R.m.btr b z
      · exact (R.m.own b _ hi).2
  · refine hmf _ _ _ _ _ _ (fun d M' q v H' O' h1 h2 h3 h4 => ?_) (fun C M' q H' O' h1 h2 h3 => ?_) h
    · obtain ⟨R', s', e'⟩ := R.called h1 h3
      refine q v H' _ R' ?_
      rw [e']
      exact h4
    · obtain ⟨R', s', e'⟩ := R.called h1 h3
      exact ⟨C, rfl, rfl, hW C M' H' _ R' q⟩
section
variable {e : Expr} {es : List Expr} {gs : GA} {n : Nat} {f : Addr} {fd : FuncData} {ps : List Str} {fs : FS} {x : Str} {pf pos : Pos}
def gxP (fs : FS) (gs : GA) : GX := fun r M Q Xc => gs r M fun ds M1 => fs ds M0 (fun d _ => Q d M1) fun C _ => Xc C M1
def gxM (fs : FS) (gs : GA) : GX := fun r M Q Xc => gs r M fun ds M1 => fs ds M1 Q Xc
theorem tx_callP (F : FnG X.prog X.w X.K X.mg X.base n f fd ps (toSp X.K ks fs)) (hmf : MonoF fs) (hr : Room n X.A) (hgd : X.A.guards = some []) (hg : Gl X x) (hm : X.mg x = some (.ref f))
    (hk : PySem.W.keepIn X.K (.ref f) = true) (hb : Binds X.K fd ps []) (ha : ∀ pn xe, DAk p (X.tr pn xe) ks (e :: es) gs) (hdb : (x == ("__debug__" : Str)) = false := by decide) (he : starEach (e :: es) X.env = (false, eval e X.env) :: starEach es X.env := by rfl)
    (hpl : (backTo pos (starEach es X.env)).any (·.1) = false := by rfl) : TrX X (.Call (.Name x pf) (e :: es) [] pos) (gxP fs gs) := by
  refine ⟨fun pn xe pins s σ H Q Wc I lk B E r M O Xc R q hW => ?_, fun r M Q Q' Xc Xc' h hx q => (ha [] fun _ _ => True).mono _ _ _ _ (fun ds M1 q1 => hmf _ _ _ _ _ _ (fun d M' q2 => h _ _ q2) (fun C M' q2 => hx _ _ q2) q1) q⟩
  refine wpAny_Call_Name_kw (ld_glob (X := X.tr pn xe) I hg hm ?_ hdb)
  have hq := (ha pn xe).on R q (Q := fun vs H1 => toSp X.K ks fs vs H1 Q (xk Wc)) fun ds M1 vs H1 O1 k1 R1 l1 i1 => callP_preX R1 i1 k1 (fun C H' O' R' q' => hW C M1 H' O' R' q') hmf
  refine PySem.W.callWith_K (h₀ := X.base) I.ok.mod.kin hk (thn ((ha pn xe).run.run pos pins s σ H _ I hq) fun us s1 ⟨vs, H1, I1, r1, qq⟩ => ⟨I1.kIn, ?_⟩) he hpl
  exact run_fgX (X := X.tr pn xe) F hr hgd hb (fun e s' c => lk pins H1 s1 e s' I1 c) I1 r1 qq
theorem tx_callM (F : FnG X.prog X.w X.K X.mg X.base n f fd ps (toSp X.K ks fs)) (hmf : MonoF fs) (hr : Room n X.A) (hgd : X.A.guards = some []) (hg : Gl X x) (hm : X.mg x = some (.ref f))
    (hk : PySem.W.keepIn X.K (.ref f) = true) (hb : Binds X.K fd ps []) (ha : ∀ pn xe, DAk false (X.tr pn xe) ks (e :: es) gs) (hv : vks ks = true := by rfl) (hdb : (x == ("__debug__" : Str)) = false := by decide) (he : starEach (e :: es) X.env = (false, eval e X.env) :: starEach es X.env := by rfl)
    (hpl : (backTo pos (starEach es X.env)).any (·.1) = false := by rfl) : TrX X (.Call (.Name x pf) (e :: es) [] pos) (gxM fs gs) := by
  refine ⟨fun pn xe pins s σ H Q Wc I lk B E r M O Xc R q hW => ?_, fun r M Q Q' Xc Xc' h hx q => (ha [] fun _ _ => True).mono _ _ _ _ (fun ds M1 q1 => hmf _ _ _ _ _ _ (fun d M' q2 => h _ _ q2) (fun C M' q2 => hx _ _ q2) q1) q⟩
  refine wpAny_Call_Name_kw (ld_glob (X := X.tr pn xe) I hg hm ?_ hdb)
  have hq := (ha pn xe).on R q (Q := fun vs H1 => toSp X.K ks fs vs H1 Q (xk Wc)) fun ds M1 vs H1 O1 k1 R1 l1 i1 => callM_preX R1 hv i1 k1 (fun C M' H' O' R' q' => hW C M' H' O' R' q') hmf
  refine PySem.W.callWith_K (h₀ := X.base) I.ok.mod.kin hk (thn ((ha pn xe).run.run pos pins s σ H _ I hq) fun us s1 ⟨vs, H1, I1, r1, qq⟩ => ⟨I1.kIn, ?_⟩) he hpl
  exact run_fgX (X := X.tr pn xe) F hr hgd hb (fun e s' c => lk pins H1 s1 e s' I1 c) I1 r1 qq
end
end
end DL

set_option Elab.async false
set_option linter.all false
set_option maxRecDepth 100000
set_option maxHeartbeats 2000000
/-! DL40: try: .. / except C as e: y = e. -/
namespace DL
open PySem PySem.Spec PySem.W PyProof.Rows L2
section
variable {X : Cx} {B : Addr → Prop} {E : En} {σ : L2.St} {H H' : Hp} {r : DL.Fr} {M M' : Mem} {O O' : Own}
theorem Rep.setn (R : Rep X B E σ H r M O) (i : Nat) : Rep X B E (σ.set i none) H (r.set i .n) M O where
  m := R.m
  len := by
    show (σ.set i none).length = (r.sl.set i .n).length
    rw [List.length_set, List.length_set]; exact R.len
  sl := fun j s e => by
    have e : (r.sl.set i .n)[j]? = some s := e
    by_cases hj : i = j
    · subst hj
      have hi : i < r.sl.length := by
        obtain ⟨h1, _⟩ := List.getElem?_eq_some_iff.mp e
        simpa using h1
      rw [List.getElem?_set_self hi] at e
      cases e
      trivial
    · rw [List.getElem?_set_ne hj] at e
      rw [List.getElem?_set_ne hj]
      exact R.sl j s e
  ent := R.ent
  sub := R.sub
  exc := R.exc
  lk := R.lk
  xe := R.xe
theorem Rep.keep (R : Rep X B E σ H r M O) {a : Addr} {u : HO} (n : H a = none) : Rep X B E σ (upd H a u) r (mup M a (.ho u)) O := (New.of R n).toMem (m := .ho u) upd_same
/-- what is wanted of an exception: caught (and kept at a) or passed on -/
def caught (tb : List (Addr × Bool)) (jz jn : Nat) (D : DEnds) (r : DL.Fr) : Addr → Mem → Prop := fun C M' => ∃ b, (C, b) ∈ tb ∧ (b = true → ∀ a, M' a = none → D.nx ((r.set jz (.v (.ref a))).set jn .n) (mup M' a (.ho (ExC (.ref C) a)))) ∧ (b = false → r.ex C M')
def gTryE (jz jn : Nat) (tb : List (Addr × Bool)) (gx : GX) : GS := fun D r M => gx (Fr.mute r) M (fun _ M' => D.nx r M') (caught tb jz jn D r)
def gTryV (jy jz jn : Nat) (tb : List (Addr × Bool)) (gx : GX) : GS := fun D r M => gx (Fr.mute r) M (fun d M' => D.nx (r.set jy (.v d)) M') (caught tb jz jn D r)
theorem caught_mono {tb : List (Addr × Bool)} {jz jn : Nat} {D D' : DEnds} (l : D.Le D') : ∀ C M', caught tb jz jn D r C M' → caught tb jz jn D' r C M' := fun C M' ⟨b, h, h1, h2⟩ => ⟨b, h, fun z a n => l.nx _ _ (h1 z a n), h2⟩
/-- the body's expression, in the try -/
def teX (X : Cx) (W : WX) (gx : GX) : TE := fun σ H Q => ∃ B E r M O, Rep X B E σ H r M O ∧ gx (Fr.mute r) M (fun d M' => ∀ v H' O', Rep X B E σ H' r M' O' → Is X.K (Av B M' O') H' v d → Q v H') (fun C M' => ∀ H' O', Rep X B E σ H' r M' O' → W (.ref C) none σ H')
theorem pe_try {e : Expr} {gx : GX} (he : TrX X e gx) {W : WX} {pn : List (Addr × Obj)} {xe : Value → Shared → Prop} (tk : Takes (X.tr pn xe) W) : PE (X.tr pn xe) e (teX X W gx) := by
  refine ⟨fun pins s σ H Q I ⟨B, E, r, M, O, R, q⟩ => ?_⟩
  refine he.run pn xe pins s σ H Q (fun C H' => W (.ref C) none σ H') I (fun pins1 H1 s1 u s' I1 c => tk u s' (XE.of_call (X := X.tr pn xe) I1 (fun cls d H' z => ?_) c)) B E.mute (Fr.mute r) M O (fun C M' => ∀ H' O', Rep X B E σ H' r M' O' → W (.ref C) none σ H') (R.mute pn xe) ?_ fun C M' H' O' R' z => z H' O' (R.unmute R')
  · obtain ⟨C, rfl, rfl, w⟩ := z
    exact w
  · exact he.mono _ _ _ _ _ _ (fun d M' k v H' O' R' i => k v H' O' (R.unmute R') i) (fun _ _ z => z) q
def tsX (jz jn : Nat) : TS := fun D σ H => ∃ v, σ[jn]? = some (some v) ∧ D.nx (σ.set jz (some v)) H
theorem suite_end {jz jn : Nat} {tb : List (Addr × Bool)} {c : Addr} {D : Ends} (hne : jz ≠ jn) (hjn : jn < X.N.length) (hl : σ.length = X.N.length) (R : Rep X B E σ H r M O) (htb : ∀ C b, (C, b) ∈ tb → PySem.W.exmOne X.K (.ref C) (.ref c) = some b) :
    ∀ C M', caught tb jz jn (LS X B E D) r C M' → ∀ H' O', Rep X B E σ H' r M' O' → wExc X.K (.ref c) jn (fun _ _ _ => tsX jz jn) (fun cls d _ H => xk E.W cls d H) D (.ref C) none σ H' := by
  rintro C M' ⟨b, hb, h1, h2⟩ H' O' R'
  refine ⟨b, htb C b hb, fun hb' => ⟨rfl, fun a na => ?_⟩, fun hb' => ⟨C, rfl, rfl, R.exc C M' H' O' (R'.m.subB R.sub) R'.ent (by rw [← R.xe]; exact h2 hb')⟩⟩
  refine ⟨.ref a, List.getElem?_set_self (by rw [hl]; exact hjn), ?_⟩
  have e : (((σ.set jn (some (.ref a))).set jz (some (.ref a))).set jn none) = (σ.set jz (some (.ref a))).set jn none := by
    rw [List.set_comm _ _ hne, List.set_set, List.set_comm _ _ (Ne.symm hne)]
  show D.nx (((σ.set jn (some (.ref a))).set jz (some (.ref a))).set jn none) _
  rw [e]
  have nM : M' a = none := by
    cases em : M' a with
    | none => rfl
    | some mo => exact absurd na ((R'.m.mem a mo em).2.2.there)
  exact h1 hb' a nM _ _ O' (((R'.keep na).setv jz (.ref a)).setn jn)
section
variable {e : Expr} {gx : GX} {cx n : Str} {c : Addr} {jy jz jn : Nat} {tb : List (Addr × Bool)} {y z : Str} {py spos np pz pn' apos pos' pos : Pos}
theorem ds_tryV (jy jz jn : Nat) (hex : X.ex = []) (hst : X.stack = X.env :: X.outer) (hf : X.env.frame = some X.env.locals) (hN : X.N.Nodup) (hc : Names X cx (.ref c)) (htb : ∀ C b, (C, b) ∈ tb → PySem.W.exmOne X.K (.ref C) (.ref c) = some b) (he : TrX X e gx)
    (hi : X.N[jn]? = some n := by rfl) (hln : X.env.kindOf n = some .local := by rfl) (hy : X.N[jy]? = some y := by rfl) (hyl : X.env.scope.names.lookup y = some .local := by rfl) (hz : X.N[jz]? = some z := by rfl) (hzl : X.env.scope.names.lookup z = some .local := by rfl) (hnl : X.env.scope.names.lookup n = some .local := by rfl)
    (hne : jz ≠ jn := by decide) (hn1 : (n == ("__debug__" : Str)) = false := by decide) (hn2 : (n == ("__classdict__" : Str)) = false := by decide)
    (hs1 : swapsWith e (some (.Name y py)) spos.line X.env = pure false := by rfl) (hs2 : swapsWith (.Name n pn') (some (.Name z pz)) apos.line X.env = pure false := by rfl) :
    DS X (.Try [.Assign [.Name y py] e spos] [.ExceptHandler (some (.Name cx np)) (some n) [.Assign [.Name z pz] (.Name n pn') apos] pos'] [] [] pos) (gTryV jy jz jn tb gx) := by
  refine ⟨⟨fun pins s σ H D I ⟨B, E, r, M, O, R, q⟩ => ?_⟩, fun D D' r M l q => he.mono _ _ _ _ _ _ (fun d M' k => l.nx _ _ k) (caught_mono l) q⟩
  refine (ps_try_exc (tb := fun W D σ H => teX X W gx σ H fun v H1 => D.nx (σ.set jy (some v)) H1) (ts := fun _ _ _ => tsX jz jn) (Wout := fun cls d _ H => xk E.W cls d H) hex hst hf hN hi hln hc R.lk (fun W pn xe tk _ => ?_) (fun a oe cls d pn _ _ => ?_)).run pins s σ H D I ?_
  · exact pss_one (ps_set (X := X.tr pn xe) hN hy (.inl hyl) (pe_try he tk) hs1 (.inr hyl))
  · exact pss_one (ps_set (X := X.suite a ((a, oe) :: pn)) hN hz (.inl hzl) (pe_var (X := X.suite a ((a, oe) :: pn)) hi (.inl hnl) hn1 hn2) hs2 (.inr hzl))
  · exact ⟨B, E, r, M, O, R, he.mono _ _ _ _ _ _ (fun d M' k v H' O' R' i => k _ H' O' (R'.setv jy i)) (fun C M' k => suite_end hne (List.getElem?_eq_some_iff.mp hi).1 I.len R htb C M' k) q⟩
theorem ds_tryE (jz jn : Nat) (hex : X.ex = []) (hst : X.stack = X.env :: X.outer) (hf : X.env.frame = some X.env.locals) (hN : X.N.Nodup) (hc : Names X cx (.ref c)) (htb : ∀ C b, (C, b) ∈ tb → PySem.W.exmOne X.K (.ref C) (.ref c) = some b) (he : TrX X e gx)
    (hi : X.N[jn]? = some n := by rfl) (hln : X.env.kindOf n = some .local := by rfl) (hz : X.N[jz]? = some z := by rfl) (hzl : X.env.scope.names.lookup z = some .local := by rfl) (hnl : X.env.scope.names.lookup n = some .local := by rfl)
    (hne : jz ≠ jn := by decide) (hn1 : (n == ("__debug__" : Str)) = false := by decide) (hn2 : (n == ("__classdict__" : Str)) = false := by decide)
    (hs1 : swapsWith e none spos.line X.env = pure false := by rfl) (hs2 : swapsWith (.Name n pn') (some (.Name z pz)) apos.line X.env = pure false := by rfl) :
    DS X (.Try [.Expr e spos] [.ExceptHandler (some (.Name cx np)) (some n) [.Assign [.Name z pz] (.Name n pn') apos] pos'] [] [] pos) (gTryE jz jn tb gx) := by
  refine ⟨⟨fun pins s σ H D I ⟨B, E, r, M, O, R, q⟩ => ?_⟩, fun D D' r M l q => he.mono _ _ _ _ _ _ (fun d M' k => l.nx _ _ k) (caught_mono l) q⟩
  refine (ps_try_exc (tb := fun W D σ H => teX X W gx σ H fun v H1 => D.nx σ H1) (ts := fun _ _ _ => tsX jz jn) (Wout := fun cls d _ H => xk E.W cls d H) hex hst hf hN hi hln hc R.lk (fun W pn xe tk _ => ?_) (fun a oe cls d pn _ _ => ?_)).run pins s σ H D I ?_
  · exact pss_one (ps_expr (X := X.tr pn xe) (pe_try he tk) hs1)
  · exact pss_one (ps_set (X := X.suite a ((a, oe) :: pn)) hN hz (.inl hzl) (pe_var (X := X.suite a ((a, oe) :: pn)) hi (.inl hnl) hn1 hn2) hs2 (.inr hzl))
  · exact ⟨B, E, r, M, O, R, he.mono _ _ _ _ _ _ (fun d M' k v H' O' R' i => k σ H' O' R') (fun C M' k => suite_end hne (List.getElem?_eq_some_iff.mp hi).1 I.len R htb C M' k) q⟩
end
end
end DL

set_option Elab.async false
set_option linter.all false
set_option maxRecDepth 100000
set_option maxHeartbeats 2000000
/-! DL41: isinstance of a caught exception. -/
namespace DL
open PySem PySem.Spec PySem.W PyProof.Rows L2
theorem excB_ok {K : PySem.W.Frag} {D : Addr} (h : excB K D = true) : ExcC K D := by
  obtain ⟨h1, h⟩ := He.ba h
  obtain ⟨h2, h⟩ := He.ba h
  obtain ⟨h3, h⟩ := He.ba h
  obtain ⟨h4, h⟩ := He.ba h
  obtain ⟨h5, h⟩ := He.ba h
  obtain ⟨h6, h⟩ := He.ba h
  obtain ⟨h7, h8⟩ := He.ba h
  exact ⟨of_decide_eq_true h1, of_decide_eq_true h2, of_decide_eq_true h3, h4, of_decide_eq_true h5, of_decide_eq_true h6, of_decide_eq_true h7, of_decide_eq_true h8⟩
section
variable {X : Cx}
def rIsX (K : PySem.W.Frag) : List V → Hp → VK → Prop := fun xs H Q => ∃ (a C : Addr) (c : V) (b : Bool), xs = [.ref a, c] ∧ H a = some (ExC (.ref C) a) ∧ ExcC K C ∧
  ((∃ cv, (∀ u, RelV c u → u = cv) ∧ PySem.W.kitOne K (.ref C) cv = some b) ∨ (∃ tp vs cvs, c = .ref tp ∧ SqT K H tp vs ∧ (∀ us, Vals vs us → us = cvs) ∧ PySem.W.kitAny K (.ref C) cvs = some b)) ∧ Q (.bl b) H
theorem call_isX : CallR X (.builtin "isinstance") (rIsX X.K) := by
  intro pins s σ H xs us Q I r h
  obtain ⟨a, C, c, b, rfl, ha, hC, hc, q⟩ := h
  cases r with
  | cons rx rr =>
    cases rr with
    | cons rt rr =>
      cases rr
      cases rx
      obtain ⟨⟨oe, vs, hget, hz, hv⟩, -⟩ := I.hok a _ ha
      have J : PySem.W.InstAt s.heap a oe C none := by
        obtain ⟨oc, od, oda, osl⟩ := oe
        obtain ⟨h1, h2⟩ := hz
        dsimp only at h1 h2 hv
        subst h1 h2 hv
        exact ⟨hget, rfl, rfl, trivial⟩
      rcases hc with ⟨cv, hcv, e⟩ | ⟨tp, ws, cvs, rfl, hs, hcv, e⟩
      · have ec := hcv _ rt
        subst ec
        exact PySem.W.kia_one (PySem.W.handS_kitx_exc hC.hg hC.hk hC.hs hC.hd hC.ha hC.hn hC.ht hC.hm) I.kIn J e (fun z => nomatch z) fun tk => ⟨.bl b, H, I.kept (t' := tk) fun _ _ z => z, rfl, q⟩
      · cases rt
        obtain ⟨its, rv, ht, hz⟩ := I.tuple hs
        have ec := hcv _ rv
        subst ec
        obtain ⟨⟨oc, od, oda, osl⟩, ho, hcl, n, hda⟩ := id ht
        dsimp only at hcl hda
        subst hcl hda
        exact PySem.W.kia_tup (PySem.W.handS_kitx_exc hC.hg hC.hk hC.hs hC.hd hC.ha hC.hn hC.ht hC.hm) I.kIn J ho e (fun z => nomatch z) fun tk => ⟨.bl b, H, I.kept (t' := tk) fun _ _ z => z, rfl, q⟩
/-- isinstance of a caught exception: tb tells it of a class's instance -/
def gcIsX (tb : List (Addr × D × Bool)) : GC := fun ds M Q => match ds with
  | [.ref a, c] => ∃ C b, M a = some (.ho (ExC (.ref C) a)) ∧ (C, c, b) ∈ tb ∧ Q (.bl b) M
  | _ => False
def isCls : D → Bool
  | .ref _ => true
  | .ty _ => true
  | _ => false
theorem cls_val {K : PySem.W.Frag} {A : Addr → Prop} {H : Hp} {v : V} : ∀ {d : D}, isCls d = true → Is1 K A H v d → ∀ u, RelV v u → u = clsV d
  | .ref a, _, i, u, r => by
    have := is1_ref i
    subst this
    exact r
  | .ty z, _, i, u, r => by
    have i : Is K A H v (.ty z) := i
    cases i
    exact r
  | .non, h, _, _, _ => by cases h
  | .bl _, h, _, _, _ => by cases h
  | .int _, h, _, _, _ => by cases h
  | .str _, h, _, _, _ => by cases h
  | .tup _, h, _, _, _ => by cases h
  | .lst _, h, _, _, _ => by cases h
  | .dic _, h, _, _, _ => by cases h
theorem cls_vals {K : PySem.W.Frag} {A : Addr → Prop} {H : Hp} : ∀ {vs : List V} {ds : List D}, ds.all isCls = true → IsL K A H vs ds → ∀ us, Vals vs us → us = ds.map clsV
  | _, _, _, .nil, _, .nil => rfl
  | _, _, h, .cons i t, _, .cons r rs => by
    rw [List.all_cons, Bool.and_eq_true] at h
    rw [List.map_cons, cls_val h.1 i.one _ r, cls_vals h.2 t _ rs]
def okC : D → Bool
  | .tup ds => ds.all isCls
  | d => isCls d
theorem ca_isX {tb : List (Addr × D × Bool)} (ht : ∀ C c b, (C, c, b) ∈ tb → ExcC X.K C ∧ okC c = true ∧ kitD X.K (.ref C) c = some b) : CaD X (.builtin "isinstance") (gcIsX tb) where
  ex := ⟨_, call_isX, fun B E σ H r M O xs ds Q R ii q => by
    unfold gcIsX at q
    split at q
    · rename_i a c
      obtain ⟨v, u, rfl, i, j⟩ := isXL2 ii
      have := is1_ref i
      subst this
      obtain ⟨C, b, em, hm, q⟩ := q
      obtain ⟨h1, h2, h3⟩ := ht C c b hm
      obtain ⟨_, _, hH⟩ := R.m.mem a _ em
      refine ⟨a, C, u, b, rfl, hH, h1, ?_, fin_v R (.bl _) q⟩
      cases c
      case tup ds =>
        obtain ⟨tp, vs, e, h, l⟩ := j
        exact .inr ⟨tp, vs, _, e, h.sq, cls_vals h2 l, h3⟩
      case ref a' => exact .inl ⟨_, cls_val (d := .ref a') h2 j, h3⟩
      case ty z => exact .inl ⟨_, cls_val (d := .ty z) h2 j, h3⟩
      all_goals cases h2
    · exact q.elim⟩
  mono := fun d M Q Q' h q => by
    unfold gcIsX at q ⊢
    split at q
    · obtain ⟨C, b, h1, h2, q⟩ := q
      exact ⟨C, b, h1, h2, h _ _ q⟩
    · exact q.elim
end
end DL

set_option Elab.async false
set_option linter.all false
set_option maxRecDepth 100000
set_option maxHeartbeats 2000000
/-! DL42: xs.count(y). -/
namespace DL
open PySem PySem.Spec PySem.W PyProof.Rows L2
section
variable {X : Cx} {p w : Bool} {a b : Expr} {ga gb : GE}
def rCountD (K : PySem.W.Frag) : V → List V → Hp → VK → Prop := fun x xs H Q => ∃ (a : Addr) (y : V) (d : PyData) (ds : List PyData), x = V.ref a ∧ xs = [y] ∧ Dp K H (V.ref a) (.list ds) ∧ Dp K H y d ∧
  SeqAt.shaped (.list ds) = true ∧ SeqAt.shaped d = true ∧ Q (.int (ds.countP fun z => PyData.eqv z d : Nat)) H
theorem mt_countD (hu : X.A.units + 65 < cLine) : MtR X "list.count" (rCountD X.K) := by
  intro pins s σ H x xs v us Q I rx rxs h
  obtain ⟨a, y, d, ds, rfl, rfl, hl, hy, sl, sd, q⟩ := h
  cases rx
  cases rxs with
  | cons ry rt =>
    rename_i uy ut
    cases rt
    obtain ⟨bs, r1⟩ := Dp.reads I d y uy hy ry
    have hxs : PyData.canLayAll0 ds = true := SeqAt.canLay_of_shaped sl
    have hroom : X.A.units + 1 + min (PyData.depthAll ds) d.depth < cLine := room_in_shaped sd hu
    cases hl with
    | lst hs ha =>
      obtain ⟨its, rv, ⟨⟨cls, dd, data, sls⟩, n, ho, hc, hdn, hdt⟩, hlen⟩ := I.list hs
      simp only at hc hdt
      subst hc hdt
      obtain ⟨as, h4⟩ := Dp.readsAll I ds _ its ha rv
      have hmap : its.map (SeqAt.readOf s.heap) = ds := SeqAt.readsAll_map ds its as hxs h4
      refine call_meets PySem.F.slot_list_count ⟨_, ho, rfl⟩ PySem.F.entry_list_count (PySem.F.args_list_count_2 _ _)
        (SeqAt.list_countAt a its.toArray n dd sls uy (fun u => PyData.eqv (SeqAt.readOf s.heap u) d)) ⟨ho, SeqAt.items_eqAt (vs := its.toArray) (show ReadsAll s.heap its.toArray.toList ds as from h4) r1 hxs (SeqAt.canLay_of_shaped sd) hroom, ?_⟩
      have e : its.toArray.toList.countP (fun u => PyData.eqv (SeqAt.readOf s.heap u) d) = ds.countP fun z => PyData.eqv z d := by
        rw [← hmap, List.countP_map]
        rfl
      rw [e]
      exact ⟨.int _, H, I.tok _, ⟨_, rfl⟩, q⟩
theorem pyL_count (e : D) : ∀ ds : List D, (D.pyL ds).countP (fun z => PyData.eqv z e.py) = ds.countP fun z => z.eqv e
  | [] => rfl
  | d :: r => by
    show (d.py :: D.pyL r).countP _ = _
    rw [List.countP_cons, List.countP_cons, pyL_count e r]
    rfl
def gCnt (ga gb : GE) : GE := fun r M Q => ga r M fun d M1 => match d with
  | .lst ds => gb r M1 fun e M2 => (D.ok (.lst ds) = true ∧ e.ok = true) ∧ Q (.int (ds.countP fun z => z.eqv e : Nat)) M2
  | _ => False
theorem de_count {nm : Str} {apos cpos : Pos} (hnm : nm = "count" := by rfl) (hu : X.A.units + 65 < cLine) (ha : DE true p X a ga) (hb : DE true p X b gb)
    (hbase : attributeBase a "count" X.env (eval a X.env) = eval a X.env := by rfl)
    (hfew : ((backTo cpos (starEach [b] X.env)).all (fun x => !x.1) && (backToKw cpos (keywordEach [] X.env)).all (fun x => x.1.isSome)
      && decide ([b].length + ([] : List Keyword).length + (if ([] : List Keyword).isEmpty then 0 else 1) < 30)) = true := by rfl)
    (hline : (apos.endLine == cpos.line) = true := by rfl) (hs : starEach [b] X.env = (false, eval b X.env) :: starEach [] X.env := by rfl) (hplain : (backTo cpos (starEach [] X.env)).any (·.1) = false := by rfl) :
    DE true p X (.Call (.Attribute a nm apos) [b] [] cpos) (gCnt ga gb) := by
  subst hnm
  refine ⟨peI (pe_bm PySem.F.plainAttrs_list PySem.F.slot_list_count PySem.F.type_list_count (mt_countD hu) ha.run (da_one hb hs).run hbase hfew hline hs hplain) fun σ H Q ⟨B, E, r, M, O, R, q⟩ => ?_, fun r M Q Q' h q => ha.mono _ _ _ _ (fun d M1 q1 => by
    split at q1
    · exact hb.mono _ _ _ _ (fun e M2 q2 => ⟨q2.1, h _ _ q2.2⟩) q1
    · exact q1) q⟩
  refine ha.on R q fun d M1 v H1 O1 k1 R1 l1 i1 => ?_
  have i1 : Is X.K (Av B M1 O1) H1 v d := i1
  split at k1
  · rename_i ds _
    cases i1 with
    | @lst l vs _ h l3 =>
      refine ⟨.inl ⟨rfl, _, SqL.of h.2⟩, ?_⟩
      refine (da_one hb hs).on R1 (k := fun zs M2 => ∃ e, zs = [e] ∧ (D.ok (.lst ds) = true ∧ e.ok = true) ∧ LE true p X B E σ r H M O Q (.int (ds.countP fun z => z.eqv e : Nat)) M2) (hb.mono _ _ _ _ (fun e M2 q2 => ⟨e, rfl, q2⟩) k1) fun zs M2 us H2 O2 k2 R2 l2 i2 => ?_
      obtain ⟨e, rfl, ⟨ok1, ok2⟩, k2⟩ := k2
      have jj := isXL_strong i2
      cases jj with
      | @cons u _ _ _ iu t =>
        cases t
        have iL : Is X.K (Av B M2 O2) H2 (.ref l) (.lst ds) := Is.step l2.avs (.lst h l3)
        refine ⟨l, u, e.py, D.pyL ds, rfl, rfl, iL.dp (ok_and ok1).1, iu.dp (ok_and ok2).1, (ok_and ok1).2, (ok_and ok2).2, ?_⟩
        rw [pyL_count]
        exact fin_v R2 (.int _) fun v3 H3 O3 R3 l4 i3 => k2 v3 H3 O3 R3 ((l1.trans l2).trans l4.weak) i3
  · exact k1.elim
end
end DL

set_option Elab.async false
set_option linter.all false
set_option maxRecDepth 100000
/-! DL43: the walk's words for try and isinstance of exceptions. -/
namespace DL
open PySem PySem.Spec PySem.W PyProof.Rows L2
section
variable {fa : List He.Fa} {fn : List He.DefD} {ts : List He.Tab} {cs : List Ck} {w : World} {K : PySem.W.Frag} {mg : Str → Option Value}
theorem Wor.exm (W : Wor fa fn K mg) (i : Nat) {x y : Str} {b : Bool} (h : fa[i]? = some (.exm x y b) := by rfl) : PySem.W.exmOne K (.ref (He.ga K x)) (.ref (He.ga K y)) = some b := He.exm_ok (W.c.fact i h)
theorem WorC.exq (W : WorC fa fn ts cs w K mg) (i : Nat) {x : Str} (h : cs[i]? = some (.exq x) := by rfl) : ExcC K (He.ga K x) := excB_ok (W.ck i h)
theorem WorC.isq (W : WorC fa fn ts cs w K mg) (i : Nat) {x : Str} {c : PySem.W.Frag → D} {b : Bool} (h : cs[i]? = some (.isq x c b) := by rfl) : kitD K (.ref (He.ga K x)) (c K) = some b := of_decide_eq_true (W.ck i h)
end
section
variable {K : PySem.W.Frag} {c x : Addr} {b : Bool} {tb : List (Addr × Bool)} {tbx : List (Addr × D × Bool)} {d : D}
def TbOk (K : PySem.W.Frag) (c : Addr) (tb : List (Addr × Bool)) : Prop := ∀ C b, (C, b) ∈ tb → PySem.W.exmOne K (.ref C) (.ref c) = some b
theorem tb_nil : TbOk K c [] := fun _ _ h => by cases h
theorem tb_cons (h : PySem.W.exmOne K (.ref x) (.ref c) = some b) (t : TbOk K c tb) : TbOk K c ((x, b) :: tb) := fun C b' h2 => by
  rcases List.mem_cons.mp h2 with e | e
  · cases e
    exact h
  · exact t C b' e
def TbxOk (K : PySem.W.Frag) (tb : List (Addr × D × Bool)) : Prop := ∀ C c b, (C, c, b) ∈ tb → ExcC K C ∧ okC c = true ∧ kitD K (.ref C) c = some b
theorem tbx_nil : TbxOk K [] := fun _ _ _ h => by cases h
theorem tbx_cons (h1 : ExcC K x) (h2 : okC d = true) (h3 : kitD K (.ref x) d = some b) (t : TbxOk K tbx) : TbxOk K ((x, d, b) :: tbx) := fun C c' b' h => by
  rcases List.mem_cons.mp h with e | e
  · cases e
    exact ⟨h1, h2, h3⟩
  · exact t C c' b' e
end
section
variable {X : Cx} {p : Bool} {e : Expr} {es : List Expr} {gs : GA} {pos pf : Pos} {n : Nat} {x : Str} {ps : List Str} {ks : List AK} {fs : FS}
theorem dg_cls (h : X.mg x = some (.ref (He.ga X.K x))) (hg : Gl X x := by rfl) (hd : (x == ("__debug__" : Str)) = false := by decide) : DE true p X (.Name x pos) (gC (.ref (He.ga X.K x))) :=
  de_glob (v := .ref (He.ga X.K x)) hg h rfl (fun _ _ => .ref _) hd
theorem tx_p (F : Def X.prog X.w X.K X.mg X.base n x ps ks fs) (hr : Room n X.A) (hgd : X.A.guards = some []) (ha : ∀ pn xe, DAk p (X.tr pn xe) ks (e :: es) gs) (hg : Gl X x := by rfl) (hdb : (x == ("__debug__" : Str)) = false := by decide)
    (he : starEach (e :: es) X.env = (false, eval e X.env) :: starEach es X.env := by rfl) (hpl : (backTo pos (starEach es X.env)).any (·.1) = false := by rfl) : TrX X (.Call (.Name x pf) (e :: es) [] pos) (gxP fs gs) :=
  let ⟨_, _, F1, hm, hk, hb⟩ := F.ex
  tx_callP F1 F.mo hr hgd hg hm hk hb ha hdb he hpl
theorem tx_m (F : Def X.prog X.w X.K X.mg X.base n x ps ks fs) (hr : Room n X.A) (hgd : X.A.guards = some []) (ha : ∀ pn xe, DAk false (X.tr pn xe) ks (e :: es) gs) (hg : Gl X x := by rfl) (hv : vks ks = true := by rfl) (hdb : (x == ("__debug__" : Str)) = false := by decide)
    (he : starEach (e :: es) X.env = (false, eval e X.env) :: starEach es X.env := by rfl) (hpl : (backTo pos (starEach es X.env)).any (·.1) = false := by rfl) : TrX X (.Call (.Name x pf) (e :: es) [] pos) (gxM fs gs) :=
  let ⟨_, _, F1, hm, hk, hb⟩ := F.ex
  tx_callM F1 F.mo hr hgd hg hm hk hb ha hv hdb he hpl
end
end DL

set_option Elab.async false
set_option linter.all false
set_option maxRecDepth 100000
/-! DL44: xs[::e], e 1 or -1. -/
namespace DL
open PySem PySem.Spec PySem.W PyProof.Rows L2
theorem pick_one (items : Array Value) : slicePick items none none (some 1) = items := by
  have e : slicePick items none none (some 1) = slicePick items none none none := rfl
  rw [e, kms_pick_eq]
  unfold kms_pick kms_lo kms_hi
  rw [Array.length_toList, Nat.sub_zero, List.drop_zero, List.take_of_length_le (by rw [Array.length_toList]; exact Nat.le_refl _)]
def stepL {α : Type} (c : Int) (xs : List α) : List α := if c = 1 then xs else xs.reverse
def tStep (K : PySem.W.Frag) (ta tb : TE) : TE := fun σ H Q => ta σ H fun x H1 => tPart tb σ H1 fun o H2 => ∃ (c : Int) (a : Addr) (xs : List V), o = some c ∧ (c = 1 ∨ c = -1) ∧ x = .ref a ∧ SqL K H2 a xs ∧ ∀ p, H2 p = none → Q (.ref p) (upd H2 p (.lst (stepL c xs)))
section
variable {X : Cx} {p w w1 w2 : Bool} {a b e : Expr} {ga gb : GE} {pos : Pos}
theorem pe_step {ta tb : TE} {p3 : Pos} (ha : PE X a ta) (hb : PE X b tb) : PE X (.Subscript a (.Slice none none (some b) p3) pos) (tStep X.K ta tb) := by
  refine ⟨fun pins s σ H Q I h => Subscript_ (thn (ha.run pins s σ H _ I h) fun v s1 ⟨x, H1, I1, r1, q⟩ => ?_)⟩
  refine wpAny_Slice (thn (po_none.run pins s1 σ H1 (fun o H2 => o = none ∧ H2 = H1) I1 ⟨rfl, rfl⟩) fun vl s2 ⟨l, H2, I2, pl, el, e2⟩ => ?_)
  subst el; subst e2
  refine thn (po_none.run pins s2 σ H2 (fun o H3 => o = none ∧ H3 = H2) I2 ⟨rfl, rfl⟩) fun vu s3 ⟨u, H3, I3, pu, eu, e3⟩ => ?_
  subst eu; subst e3
  refine thn ((po_some hb).run pins s3 σ H3 _ I3 q) fun vs s4 ⟨o, H4, I4, ps, c, l, xs, eo, hc, ex, hx, q⟩ => ?_
  subst eo; subst ex
  cases r1
  have I5 : Inv X pins σ H4 { s4 with heap := s4.heap.push { cls := .type "slice", data := .fields #[vl, vu, vs] } } := I4.kept (t' := s4.toks) fun b ob q => Heap.get?_push_of_some _ q
  show wpAny (model X.prog X.w) X.A (subscriptTail a (.Slice none none (some b) p3) (.ref l) (.ref s4.heap.objs.size)) (EP X pins σ Q) X.xe { s4 with heap := s4.heap.push { cls := .type "slice", data := .fields #[vl, vu, vs] } }
  obtain ⟨its, r, ht, hz⟩ := I5.list hx
  have hlen := r.length
  refine tail_any (ops := [.ref l, .ref s4.heap.objs.size]) ht.isList.typeIs (PySem.slot_list_getitem.lookup) ?_ (by with_unfolding_all rfl)
  refine wpAny_getItem_list_slice ht.isList (Heap.IsSliceOf.new _ vl vu vs) pl pu ps (by rcases hc with rfl | rfl <;> decide) ?_ (by rw [List.size_toArray]; omega)
  rcases hc with rfl | rfl
  · rw [pick_one]
    have q := q
    exact ⟨.ref _, _, I5.laid (t' := s4.toks) (o := .lst xs) (fun b ob q => Heap.get?_push_of_some _ q) (Nat.le_refl _) ⟨hz, _, 0, r, Heap.get?_push_size _ rfl⟩, rfl, q _ (I5.hok.fresh (Nat.le_refl _))⟩
  · rw [PySem.W.krv_pick]
    exact ⟨.ref _, _, I5.laid (t' := s4.toks) (o := .lst xs.reverse) (fun b ob q => Heap.get?_push_of_some _ q) (Nat.le_refl _) ⟨by rw [List.length_reverse]; exact hz, _, 0, r.reverse, Heap.get?_push_size _ rfl⟩, rfl, q _ (I5.hok.fresh (Nat.le_refl _))⟩
def stepK (d e : D) (M : Mem) (Q : D → Mem → Prop) : Prop := match d, e with
  | .lst xs, .int c => (c = 1 ∨ c = -1) ∧ Q (.lst (stepL c xs)) M
  | _, _ => False
theorem stepK_lst {xs : List D} {c : Int} {M : Mem} {Q : D → Mem → Prop} : stepK (.lst xs) (.int c) M Q = ((c = 1 ∨ c = -1) ∧ Q (.lst (stepL c xs)) M) := rfl
def gStep (ga gb : GE) : GE := fun r M Q => ga r M fun d M1 => gb r M1 fun e M2 => stepK d e M2 Q
theorem IsL.stepL {K : PySem.W.Frag} {A : Addr → Prop} {H : Hp} {vs : List V} {ds : List D} (c : Int) (l : IsL K A H vs ds) : IsL K A H (DL.stepL c vs) (DL.stepL c ds) := by
  unfold DL.stepL
  split
  · exact l
  · exact l.reverse
theorem de_step {p3 : Pos} (ha : DE true p X a ga) (hb : DE true p X b gb) : DE true p X (.Subscript a (.Slice none none (some b) p3) pos) (gStep ga gb) := by
  refine ⟨peI (pe_step ha.run hb.run) fun σ H Q ⟨B, E, r, M, O, R, q⟩ => ?_, fun r M Q Q' h q => ha.mono _ _ _ _ (fun d M1 q1 => hb.mono _ _ _ _ (fun e M2 q2 => ?_) q1) q⟩
  · refine ha.on R q fun d M1 v H1 O1 k1 R1 l1 i1 => ?_
    refine hb.on R1 k1 fun e M2 u H2 O2 k2 R2 l2 i2 => ?_
    have i1' : Is X.K (Av B M2 O2) H2 v d := Is.step l2.avs i1
    have i2' : Is X.K (Av B M2 O2) H2 u e := i2
    unfold stepK at k2
    split at k2
    · rename_i xs k
      cases i2'
      cases i1' with
      | @lst l vs _ h l3 => exact ⟨k, rfl, k, l, vs, rfl, k2.1, rfl, SqL.of h.2, fin_lst R2 (l3.stepL k) (LE.go (l1.trans l2) k2.2)⟩
    · exact k2.elim
  · unfold stepK at q2 ⊢
    split at q2
    · exact ⟨q2.1, h _ _ q2.2⟩
    · exact q2.elim
end
end DL

namespace LW
open PySem PySem.Spec PySem.W PyProof.Rows L2 DL
local macro_rules | `(tactic| wp_walk) => `(tactic| simp only [gSeq, gSet, gRet, gRetN, gNext, gIfS, gDrop, gOwn, gApp, gExt, gForM, gLcM, gCnt, gTryV, gTryE, gxP, gxM, DL.Fr.mute, gIPut, gFrz, frz, gAsg, gPar, gPar3, gAug, gRaise, gRetM, gSetM, gMPut, gMGet, g1, g2, gC, gV, gVw, gB, gAnd, gOr, gNot, gNotV, gIf, DL.gCons, DL.gNil, DL.gTup, DL.gLst, gFl, gFd, gCa, gLenS, gPart, gNoP, gDisp, gPcons, gPnil, gtN, gtTup, gtCons, gtNil, gYes, gFor, gLc, giS, gCallP, gCallM, gScr, entry, aSls, aSl, DL.Fr.set, OM.d, wipeF, wipeS, keyD, List.length_cons, List.length_nil, List.cons_append, List.nil_append, List.append_nil, List.replicate_succ, List.replicate_zero, List.getElem?_cons_zero, List.getElem?_cons_succ, List.getElem?_nil, List.set_cons_zero, List.set_cons_succ, Nat.reduceAdd, Nat.reduceSub, if_true, if_false, ite_true, ite_false, reduceIte, Bool.false_eq_true, Bool.not_true, Bool.not_false, List.all_cons, List.all_nil, Bool.and_true, true_and, and_true, List.map_cons, List.map_nil, gIdx, ixT_ints, intsOf_map, Int.reduceToNat, Option.some.injEq, exists_eq_left', goAdd_int, goAdd_str, goAdd_tup, goAdd_lst, goAddW_int, goAddW_lst, goPlus_int, goI_int, guI_int, gcI1_int, goIx_lst, gcLen_lst, gcTupleS_lst, gcList_lst, goRevA_lst, goIx_tup, gcLen_tup, gcTupleS_tup, gcList_tup, goRevA_tup, gcTuple_lst, goIx_str, gcLen_str, gcInt_int, gcInt_bl, goMulT_tup, goMulL_lst, goIsB_bl, goIsN_non, isN_int, isN_bl, isN_str, isN_tup, isN_lst, isN_dic, isN_ref, isN_ty, isN_non, gTru_k, truK_non, truK_bl, truK_int, truK_lst, truK_tup, truK_str, gFlist_k, lstK_lst, lstK_tup, gsSl_k, slK_lst, slK_tup, slK_str, itsD_k, itsK_lst, itsK_tup, giZip_k, zipK_lst, zipK_tup, giR1_k, ran1K_nat, ran1K_int, giR2_k, ran2K_int, goLtA_int, goLtA_tup, ok_non, eqv_bl, goEq_int, goNe_int, goEq_bl, goNe_bl, gcMin_ints, gcMinT_ints, gcMax_ints, gcMaxT_ints, intsOf_mapf, blsOf_mapf, gcMin_f, gcMax_f, gcMin_2, gcMax_2, gcSum_ints, gcSum_f, gcBls_f, all_mapid, any_mapid, at_0, at_1, at_2, at_3, at_last, noOwn_nil, noOwn_1, noOwn_2, nof_n, nof_v, nof_b, nof_s, zipD_map, enumD_map, isi_non_int, isi_non_bool, isi_non_str, isi_non_tuple, isi_non_list, isi_non_dict, isi_bl_int, isi_bl_bool, isi_bl_str, isi_bl_tuple, isi_bl_list, isi_bl_dict, isi_int_int, isi_int_bool, isi_int_str, isi_int_tuple, isi_int_list, isi_int_dict, isi_str_int, isi_str_bool, isi_str_str, isi_str_tuple, isi_str_list, isi_str_dict, isi_tup_int, isi_tup_bool, isi_tup_str, isi_tup_tuple, isi_tup_list, isi_tup_dict, isi_lst_int, isi_lst_bool, isi_lst_str, isi_lst_tuple, isi_lst_list, isi_lst_dict, isi_dic_int, isi_dic_bool, isi_dic_str, isi_dic_tuple, isi_dic_list, isi_dic_dict, gcAll, gcAny, goMod, goFdiv, decide_eq_true_eq, Bool.not_eq_true', decide_eq_false_iff_not, ite_not, Bool.and_eq_true, not_false_eq_true, Bool.not_eq_true, List.map_append, Int.zero_add, List.any_cons, List.any_nil, Bool.true_and, Bool.or_false, Bool.xor_false, Bool.false_xor, Bool.true_xor, Bool.not_not, forall_const, Int.toNat_natCast, List.length_map, List.length_append, and_self, ne_eq, List.map_eq_nil_iff, not_true_eq_false, eq_self, goMulI, goSub, goPow, goLe, goGt, goGe, guNeg, gcAbs, goEq_str, goNe_str, goEq_tup, goNe_tup, goEq_lst, goNe_lst, goEq_non, goNe_non, gAndV_k, gOrV_k, gCh_k, blK_bl, ite_bf, reduceCtorEq, Int.reducePow, Int.reduceLT, Int.reduceLE, Int.reduceNeg, sz0, se0, sz1, se1, sz2, se2, sz3, se3, sz4, se4, sz5, se5, sz6, se6, sz7, se7, sz8, se8, sz9, se9, gFld, fldK_ref, gPutF, gPutFM, putFK_ref, gDrf, drfK_ref, gMApp, mlK_ref, gMPop, popK_int, gMIns, ins2K_2, insK_int, gMeth, mthK_ref, gMake, giR3, gFlR1, gFlR2, rg2K_int, gLenSet, lenSetK_lst, lenSetK_tup, gMinD, minDK_lst, giMem, giBA, gMIdx, goTab, gFsort, sortK_lst, sortK_tup])
local macro_rules | `(tactic| wp_walk using $ts,*) => `(tactic| simp only [$[$ts:term],*, gSeq, gSet, gRet, gRetN, gNext, gIfS, gDrop, gOwn, gApp, gExt, gForM, gLcM, gCnt, gTryV, gTryE, gxP, gxM, DL.Fr.mute, gIPut, gFrz, frz, gAsg, gPar, gPar3, gAug, gRaise, gRetM, gSetM, gMPut, gMGet, g1, g2, gC, gV, gVw, gB, gAnd, gOr, gNot, gNotV, gIf, DL.gCons, DL.gNil, DL.gTup, DL.gLst, gFl, gFd, gCa, gLenS, gPart, gNoP, gDisp, gPcons, gPnil, gtN, gtTup, gtCons, gtNil, gYes, gFor, gLc, giS, gCallP, gCallM, gScr, entry, aSls, aSl, DL.Fr.set, OM.d, wipeF, wipeS, keyD, List.length_cons, List.length_nil, List.cons_append, List.nil_append, List.append_nil, List.replicate_succ, List.replicate_zero, List.getElem?_cons_zero, List.getElem?_cons_succ, List.getElem?_nil, List.set_cons_zero, List.set_cons_succ, Nat.reduceAdd, Nat.reduceSub, if_true, if_false, ite_true, ite_false, reduceIte, Bool.false_eq_true, Bool.not_true, Bool.not_false, List.all_cons, List.all_nil, Bool.and_true, true_and, and_true, List.map_cons, List.map_nil, gIdx, ixT_ints, intsOf_map, Int.reduceToNat, Option.some.injEq, exists_eq_left', goAdd_int, goAdd_str, goAdd_tup, goAdd_lst, goAddW_int, goAddW_lst, goPlus_int, goI_int, guI_int, gcI1_int, goIx_lst, gcLen_lst, gcTupleS_lst, gcList_lst, goRevA_lst, goIx_tup, gcLen_tup, gcTupleS_tup, gcList_tup, goRevA_tup, gcTuple_lst, goIx_str, gcLen_str, gcInt_int, gcInt_bl, goMulT_tup, goMulL_lst, goIsB_bl, goIsN_non, isN_int, isN_bl, isN_str, isN_tup, isN_lst, isN_dic, isN_ref, isN_ty, isN_non, gTru_k, truK_non, truK_bl, truK_int, truK_lst, truK_tup, truK_str, gFlist_k, lstK_lst, lstK_tup, gsSl_k, slK_lst, slK_tup, slK_str, itsD_k, itsK_lst, itsK_tup, giZip_k, zipK_lst, zipK_tup, giR1_k, ran1K_nat, ran1K_int, giR2_k, ran2K_int, goLtA_int, goLtA_tup, ok_non, eqv_bl, goEq_int, goNe_int, goEq_bl, goNe_bl, gcMin_ints, gcMinT_ints, gcMax_ints, gcMaxT_ints, intsOf_mapf, blsOf_mapf, gcMin_f, gcMax_f, gcMin_2, gcMax_2, gcSum_ints, gcSum_f, gcBls_f, all_mapid, any_mapid, at_0, at_1, at_2, at_3, at_last, noOwn_nil, noOwn_1, noOwn_2, nof_n, nof_v, nof_b, nof_s, zipD_map, enumD_map, isi_non_int, isi_non_bool, isi_non_str, isi_non_tuple, isi_non_list, isi_non_dict, isi_bl_int, isi_bl_bool, isi_bl_str, isi_bl_tuple, isi_bl_list, isi_bl_dict, isi_int_int, isi_int_bool, isi_int_str, isi_int_tuple, isi_int_list, isi_int_dict, isi_str_int, isi_str_bool, isi_str_str, isi_str_tuple, isi_str_list, isi_str_dict, isi_tup_int, isi_tup_bool, isi_tup_str, isi_tup_tuple, isi_tup_list, isi_tup_dict, isi_lst_int, isi_lst_bool, isi_lst_str, isi_lst_tuple, isi_lst_list, isi_lst_dict, isi_dic_int, isi_dic_bool, isi_dic_str, isi_dic_tuple, isi_dic_list, isi_dic_dict, gcAll, gcAny, goMod, goFdiv, decide_eq_true_eq, Bool.not_eq_true', decide_eq_false_iff_not, ite_not, Bool.and_eq_true, not_false_eq_true, Bool.not_eq_true, List.map_append, Int.zero_add, List.any_cons, List.any_nil, Bool.true_and, Bool.or_false, Bool.xor_false, Bool.false_xor, Bool.true_xor, Bool.not_not, forall_const, Int.toNat_natCast, List.length_map, List.length_append, and_self, ne_eq, List.map_eq_nil_iff, not_true_eq_false, eq_self, goMulI, goSub, goPow, goLe, goGt, goGe, guNeg, gcAbs, goEq_str, goNe_str, goEq_tup, goNe_tup, goEq_lst, goNe_lst, goEq_non, goNe_non, gAndV_k, gOrV_k, gCh_k, blK_bl, ite_bf, reduceCtorEq, Int.reducePow, Int.reduceLT, Int.reduceLE, Int.reduceNeg, sz0, se0, sz1, se1, sz2, se2, sz3, se3, sz4, se4, sz5, se5, sz6, se6, sz7, se7, sz8, se8, sz9, se9, gFld, fldK_ref, gPutF, gPutFM, putFK_ref, gDrf, drfK_ref, gMApp, mlK_ref, gMPop, popK_int, gMIns, ins2K_2, insK_int, gMeth, mthK_ref, gMake, giR3, gFlR1, gFlR2, rg2K_int, gLenSet, lenSetK_lst, lenSetK_tup, gMinD, minDK_lst, giMem, giBA, gMIdx, goTab, gFsort, sortK_lst, sortK_tup])
/-! what all laws draw from -/
variable {K : PySem.W.Frag}
/-- what a choosing may take -/
def preTake (r : List D) : Prop := ∃ m : Int, r = [.int m] ∧ 1 ≤ m ∧ m ≤ 1000001
def postTake (r : List D) (d : D) : Prop := ∃ m n : Int, r = [.int m] ∧ d = .int n ∧ 0 ≤ n ∧ n < m
def fs_l_begun (K : PySem.W.Frag) : FS := BegunF
def fr_l_begun (K : PySem.W.Frag) : FS := BegunR
theorem mo_l_begun : MonoF BegunR := begunR_mono
/-- _law_begun -/
def g_l_begun (K : PySem.W.Frag) : GS := gRetM (gDisp (gPcons "cells" (gFd (gLc (giS 0) (gtN 1) (gYes) (gCa gcAbs (gCons (gV 1) gNil)) [1])) (gPcons "at" (gC (.int 0)) (gPcons "rest" (gC (.int 0)) (gPcons "turn" (gC (.int 0)) (gPcons "more" (g2 goAdd (gC (.int 7)) (gLenS 0)) gPnil))))))
theorem v_cells {ns : List Int} {a r t m : Int} : valD (stD ns a r t m) (.inr "cells") = some (.lst (ns.map .int)) := rfl
theorem v_at {ns : List Int} {a r t m : Int} : valD (stD ns a r t m) (.inr "at") = some (.int a) := rfl
theorem v_rest {ns : List Int} {a r t m : Int} : valD (stD ns a r t m) (.inr "rest") = some (.int r) := rfl
theorem v_turn {ns : List Int} {a r t m : Int} : valD (stD ns a r t m) (.inr "turn") = some (.int t) := rfl
theorem v_more {ns : List Int} {a r t m : Int} : valD (stD ns a r t m) (.inr "more") = some (.int m) := rfl
theorem p_at {ns : List Int} {a r t m x : Int} : putD (stD ns a r t m) (.inr "at") (.int x) = stD ns x r t m := rfl
theorem p_rest {ns : List Int} {a r t m x : Int} : putD (stD ns a r t m) (.inr "rest") (.int x) = stD ns a x t m := rfl
theorem p_turn {ns : List Int} {a r t m x : Int} : putD (stD ns a r t m) (.inr "turn") (.int x) = stD ns a r x m := rfl
theorem p_more {ns : List Int} {a r t m x : Int} : putD (stD ns a r t m) (.inr "more") (.int x) = stD ns a r t x := rfl
theorem st_len {ns : List Int} {a r t m : Int} : (stD ns a r t m).length < sizeLine := size_lt (by show 5 ≤ _; omega)
theorem h_l_begun : ∀ ds M Q X, BegunR ds M Q X → ds.length = ([.s] : List AK).length → g_l_begun K { nx := fun _ M' => Q .non M', rt := Q } (entry 2 [.s] ds X) M := by
  rintro ds M Q X ⟨ns, rfl, hl, q⟩ -
  wp_walk using g_l_begun, intsOf_map, goAdd
  refine lc_map (fun d => match d with | .int k => .int (if k < 0 then -k else k) | _ => .non) (fun d hd Q' q' => ?_) (size_of (by simp; omega)) ?_
  · obtain ⟨c, hc', rfl⟩ := List.mem_map.mp hd
    wp_walk
    exact q'
  · intro a na
    refine q a _ na ⟨ns.map fun k => if k < 0 then -k else k, 0, 0, 0, 7 + ns.length, ?_, by rw [List.length_map]; exact hl, fun n hn => ?_, by omega, by omega, by omega, by omega, by omega⟩
    · rw [List.nil_append, List.map_map]
      have e : ((fun d => match d with | .int k => D.int (if k < 0 then -k else k) | _ => .non) ∘ D.int) = D.int ∘ fun k => if k < 0 then -k else k := rfl
      rw [e, ← List.map_map]
      rfl
    · obtain ⟨k, _, rfl⟩ := List.mem_map.mp hn
      split <;> omega
def fs_l_take (K : PySem.W.Frag) : FS := DrawF preTake postTake
theorem mo_l_take : MonoF (RawF preTake postTake) := rawF_mono
/-- _law_take -/
def af1_l_take (K : PySem.W.Frag) : GS := gMPut (gV 0) (gC (.str "at")) (g2 goAdd (gMGet (gV 0) (gC (.str "at"))) (gC (.int 1)))
def lp1_l_take (K : PySem.W.Frag) : GS := gSeq (gIfS (gB (g2 goGe (g2 goIx (gV 2) (gMGet (gV 0) (gC (.str "at")))) (g2 goPow (gC (.int 10)) (gC (.int 18))))) (gMPut (gV 0) (gC (.str "rest")) (g2 goIx (gV 2) (gMGet (gV 0) (gC (.str "at"))))) (gNext)) (af1_l_take K)
def af2_l_take (K : PySem.W.Frag) : GS := gSeq (gMPut (gV 0) (gC (.str "turn")) (g2 goAdd (gMGet (gV 0) (gC (.str "turn"))) (gC (.int 1)))) (gSeq (gMPut (gV 0) (gC (.str "more")) (g2 goMod (g2 goAdd (g2 goAdd (g2 goMulI (gMGet (gV 0) (gC (.str "more"))) (gC (.int 48271))) (gV 4)) (gMGet (gV 0) (gC (.str "turn")))) (gC (.int 2147483647)))) (gRet (g2 goMod (g2 goMod (g2 goAdd (g2 goMulI (gMGet (gV 0) (gC (.str "more"))) (gMGet (gV 0) (gC (.str "more")))) (g2 goMulI (gC (.int 16807)) (gMGet (gV 0) (gC (.str "more"))))) (gC (.int 2147483629))) (gV 1))))
def af3_l_take (K : PySem.W.Frag) : GS := gSeq (gSet 4 (gC (.int 0))) (gSeq (gIfS (gB (g2 goGt (gCa gcLen (gCons (gV 2) gNil)) (gC (.int 0)))) (gSet 4 (g2 goIx (gV 2) (g2 goMod (gMGet (gV 0) (gC (.str "turn"))) (gCa gcLen (gCons (gV 2) gNil))))) (gNext)) (af2_l_take K))
def af4_l_take (K : PySem.W.Frag) : GS := gSeq (gIfS (gB (g2 goGt (gMGet (gV 0) (gC (.str "rest"))) (gC (.int 1)))) (gSeq (gSet 3 (g2 goMod (gMGet (gV 0) (gC (.str "rest"))) (gV 1))) (gSeq (gMPut (gV 0) (gC (.str "rest")) (g2 goFdiv (gMGet (gV 0) (gC (.str "rest"))) (gV 1))) (gRet (gV 3)))) (gNext)) (af3_l_take K)
def g_l_take (K : PySem.W.Frag) : GS := gSeq (gSet 2 (gMGet (gV 0) (gC (.str "cells")))) (gSeq (gWhile (gAnd (gB (g2 goLtA (gMGet (gV 0) (gC (.str "rest"))) (gC (.int 2)))) (gB (g2 goLtA (gMGet (gV 0) (gC (.str "at"))) (gCa gcLen (gCons (gV 2) gNil))))) (lp1_l_take K)) (af4_l_take K))
theorem h_l_take : ∀ ds M Q X, RawF preTake postTake ds M Q X → ds.length = ([.v, .v] : List AK).length → g_l_take K { nx := fun _ M' => Q .non M', rt := Q } (entry 5 [.v, .v] ds X) M := by
  rintro ds M Q X ⟨a, r, kds, rfl, ms, ⟨ns, at_, rest, turn, more, rfl, hl, hn, a0, r0, t0, m0, m1⟩, ⟨many, rfl, y0, y1⟩, q⟩ -
  have fin : ∀ (n : Int) (at_ rest turn more : Int), 0 ≤ n → n < many → 0 ≤ at_ → 0 ≤ rest → 0 ≤ turn → 0 ≤ more → more < 2147483648 → Q (.int n) (mup M a (.om (.dic (stD ns at_ rest turn more)))) :=
    fun n at_ rest turn more h1 h2 h3 h4 h5 h6 h7 => q _ _ ⟨many, n, rfl, rfl, h1, h2⟩ ⟨ns, at_, rest, turn, more, rfl, hl, hn, h3, h4, h5, h6, h7⟩
  wp_walk using g_l_take, ms, v_cells
  refine ⟨fun m r M' => ∃ at_ rest turn more : Int, M' = mup M a (.om (.dic (stD ns at_ rest turn more))) ∧ r = ⟨[.v (.ref a), .v (.int many), .v (.lst (ns.map .int)), .n, .n], X⟩ ∧ 0 ≤ at_ ∧ 0 ≤ rest ∧ 0 ≤ turn ∧ 0 ≤ more ∧ more < 2147483648 ∧ m = ((ns.length : Int) - at_).toNat,
    ⟨_, at_, rest, turn, more, (mup_self ms).symm, rfl, a0, r0, t0, m0, m1, rfl⟩, ?_⟩
  rintro m r M' ⟨at_, rest, turn, more, rfl, rfl, a0, r0, t0, m0, m1, rfl⟩
  have rest_ : af4_l_take K { nx := fun x M' => Q D.non M', rt := Q } ⟨[.v (.ref a), .v (.int many), .v (.lst (ns.map .int)), .n, .n], X⟩ (mup M a (.om (.dic (stD ns at_ rest turn more)))) := by
    wp_walk using af4_l_take, mup_same, v_rest, goMod, goFdiv
    by_cases h : 1 < rest
    · rw [if_pos h]
      refine ⟨by omega, ⟨by omega, ?_⟩, st_len, ?_⟩
      · have := Nat.log2_lt (n := many.natAbs) (k := 9000) (by omega)
        exact (this.mpr (Nat.lt_of_lt_of_le (show many.natAbs < 2 ^ 20 by omega) (Nat.pow_le_pow_right (by decide) (by decide))))
      · rw [mup_mup, p_rest]
        exact fin _ _ _ _ _ (Int.emod_nonneg _ (by omega)) (Int.emod_lt_of_pos _ (by omega)) a0 (Int.ediv_nonneg (by omega) (by omega)) t0 m0 m1
    · rw [if_neg h]
      have tail : ∀ c : Int, 0 ≤ c → af2_l_take K { nx := fun x M' => Q D.non M', rt := Q } ⟨[.v (.ref a), .v (.int many), .v (.lst (ns.map .int)), .n, .v (.int c)], X⟩ (mup M a (.om (.dic (stD ns at_ rest turn more)))) := fun c c0 => by
        wp_walk using af2_l_take, mup_same, v_turn, goAdd
        refine ⟨st_len, ?_⟩
        rw [mup_mup, p_turn]
        wp_walk using mup_same, v_more, v_turn
        refine ⟨.inr ⟨by decide, by decide⟩, st_len, ?_⟩
        rw [mup_mup, p_more]
        have y0 : 0 ≤ (more * 48271 + c + (turn + 1)) % 2147483647 := Int.emod_nonneg _ (by decide)
        have y1 : (more * 48271 + c + (turn + 1)) % 2147483647 < 2147483647 := Int.emod_lt_of_pos _ (by decide)
        generalize (more * 48271 + c + (turn + 1)) % 2147483647 = y at y0 y1 ⊢
        wp_walk using mup_same, v_more
        exact ⟨.inl ⟨by omega, by omega⟩, .inl ⟨by decide, by decide⟩, by omega, fin _ _ _ _ _ (Int.emod_nonneg _ (by omega)) (Int.emod_lt_of_pos _ (by omega)) a0 r0 (by omega) y0 (by omega)⟩
      wp_walk using af3_l_take, List.length_map
      by_cases h0 : (0 : Int) < (ns.length : Nat)
      · rw [if_pos h0]
        have t1 := Int.emod_nonneg turn (show ((ns.length : Nat) : Int) ≠ 0 by omega)
        have t2 := Int.emod_lt_of_pos turn h0
        obtain ⟨z, hz, hz2, _⟩ := atI_in (xs := ns.map D.int) t1 (by rw [List.length_map]; exact t2)
        obtain ⟨c, hc, rfl⟩ := List.mem_map.mp hz2
        wp_walk using mup_same, v_turn, goMod, List.length_map, hz
        exact ⟨h0, tail c (hn c hc)⟩
      · rw [if_neg h0]
        exact tail 0 (by decide)
  wp_walk using mup_same, v_rest, v_at, List.length_map
  by_cases h1 : rest < 2
  · rw [if_pos h1]
    by_cases h2 : at_ < (ns.length : Nat)
    · rw [if_pos h2]
      obtain ⟨z, hz, hz2, _⟩ := atI_in (xs := ns.map D.int) a0 (by rw [List.length_map]; exact h2)
      obtain ⟨c, hc, rfl⟩ := List.mem_map.mp hz2
      have tail : ∀ (DD : DEnds) (rest : Int), DD.nx ⟨[.v (.ref a), .v (.int many), .v (.lst (ns.map .int)), .n, .n], X⟩ (mup M a (.om (.dic (stD ns (at_ + 1) rest turn more)))) →
          af1_l_take K DD ⟨[.v (.ref a), .v (.int many), .v (.lst (ns.map .int)), .n, .n], X⟩ (mup M a (.om (.dic (stD ns at_ rest turn more)))) := fun DD rest h => by
        wp_walk using af1_l_take, mup_same, v_at, goAdd
        refine ⟨st_len, ?_⟩
        rw [mup_mup, p_at]
        exact h
      have nxt : ∀ rest : Int, 0 ≤ rest → ∃ m', m' < ((ns.length : Int) - at_).toNat ∧ ∃ at_' rest' turn' more' : Int, mup M a (.om (.dic (stD ns (at_ + 1) rest turn more))) = mup M a (.om (.dic (stD ns at_' rest' turn' more'))) ∧
          (⟨[.v (.ref a), .v (.int many), .v (.lst (ns.map .int)), .n, .n], X⟩ : DL.Fr) = ⟨[.v (.ref a), .v (.int many), .v (.lst (ns.map .int)), .n, .n], X⟩ ∧ 0 ≤ at_' ∧ 0 ≤ rest' ∧ 0 ≤ turn' ∧ 0 ≤ more' ∧ more' < 2147483648 ∧ m' = ((ns.length : Int) - at_').toNat :=
        fun rest r0 => ⟨((ns.length : Int) - (at_ + 1)).toNat, by omega, at_ + 1, rest, turn, more, rfl, rfl, by omega, r0, t0, m0, m1, rfl⟩
      wp_walk using lp1_l_take, mup_same, v_at, hz, goPow
      refine ⟨⟨by decide, by decide, by decide⟩, ?_⟩
      split
      · refine ⟨st_len, ?_⟩
        rw [mup_mup, p_rest]
        exact tail _ c (nxt c (hn c hc))
      · exact tail _ rest (nxt rest r0)
    · rw [if_neg h2]
      exact rest_
  · rw [if_neg h1]
    exact rest_
theorem take_of {M : Mem} {a : Addr} {m : Int} {Q : D → Mem → Prop} {X : Addr → Mem → Prop} (ms : M a = some .st) (h1 : 1 ≤ m) (h2 : m ≤ 1000001) (h : ∀ n : Int, 0 ≤ n → n < m → Q (.int n) M) : fs_l_take K [.ref a, .int m] M Q X :=
  ⟨a, _, rfl, ms, ⟨m, rfl, h1, h2⟩, fun d ⟨m', n, e, e2, h3, h4⟩ => by cases e; subst e2; exact h n h3 h4⟩
def seqOf : D → Option (List D)
  | .lst xs => some xs
  | .tup xs => some xs
  | _ => none
def fs_l_pick (K : PySem.W.Frag) : FS := DrawF (fun r => ∃ d xs, r = [d] ∧ seqOf d = some xs ∧ 0 < xs.length ∧ xs.length ≤ 1000000) fun r z => ∃ d xs, r = [d] ∧ seqOf d = some xs ∧ z ∈ xs
theorem mo_l_pick {K : PySem.W.Frag} : MonoF (fs_l_pick K) := drawF_mono
/-- _law_pick -/
def g_l_pick (K : PySem.W.Frag) : GS := gRet (g2 goIx (gV 1) (gCallM (fs_l_take K) (gCons (gV 0) (gCons (gCa gcLen (gCons (gV 1) gNil)) gNil))))
theorem h_l_pick {K : PySem.W.Frag} : ∀ ds M Q X, (fs_l_pick K) ds M Q X → ds.length = ([.v, .v] : List AK).length → g_l_pick K { nx := fun _ M' => Q .non M', rt := Q } (entry 2 [.v, .v] ds X) M := by
  rintro ds M Q X ⟨a, r, rfl, ms, ⟨d, xs, rfl, hs, h0, h1⟩, q⟩ -
  cases d <;> simp only [seqOf, reduceCtorEq, Option.some.injEq] at hs <;> subst hs
  all_goals
    wp_walk using g_l_pick
    refine take_of ms (by omega) (by omega) fun n n0 n1 => ?_
    obtain ⟨z, e, hz, _⟩ := atI_in n0 n1
    wp_walk using e
    exact q z ⟨_, _, rfl, rfl, hz⟩
theorem pick_of {M : Mem} {a : Addr} {d : D} {xs : List D} {Q : D → Mem → Prop} {X : Addr → Mem → Prop} (ms : M a = some .st) (hs : seqOf d = some xs) (h1 : 0 < xs.length) (h2 : xs.length ≤ 1000000) (h : ∀ z ∈ xs, Q z M) : fs_l_pick K [.ref a, d] M Q X :=
  ⟨a, _, rfl, ms, ⟨d, xs, rfl, hs, h1, h2⟩, fun z ⟨d', ys, e, e2, hd⟩ => by
    cases e
    rw [hs] at e2
    cases e2
    exact h z hd⟩
def fs_l_size (K : PySem.W.Frag) : FS := DrawF (fun r => ∃ b : Int, r = [.int b] ∧ 0 ≤ b ∧ b ≤ 1000) fun r d => ∃ b n : Int, r = [.int b] ∧ d = .int n ∧ 0 ≤ n ∧ n ≤ b
theorem mo_l_size {K : PySem.W.Frag} : MonoF (fs_l_size K) := drawF_mono
/-- _law_size -/
def g_l_size (K : PySem.W.Frag) : GS := gSeq (gSet 2 (gLst (gCons (gCallM (fs_l_take K) (gCons (gV 0) (gCons (gC (.int 8)) gNil))) (gCons (gCallM (fs_l_take K) (gCons (gV 0) (gCons (gC (.int 20)) gNil))) (gCons (gCallM (fs_l_take K) (gCons (gV 0) (gCons (g2 goAdd (gV 1) (gC (.int 1))) gNil))) (gCons (gC (.int 0)) (gCons (gV 1) (gCons (gC (.int 9)) gNil)))))))) (gRet (g2 goMod (gCallM (fs_l_pick K) (gCons (gV 0) (gCons (gV 2) gNil))) (g2 goAdd (gV 1) (gC (.int 1)))))
theorem h_l_size : ∀ ds M Q X, (fs_l_size K) ds M Q X → ds.length = ([.v, .v] : List AK).length → g_l_size K { nx := fun _ M' => Q .non M', rt := Q } (entry 3 [.v, .v] ds X) M := by
  rintro ds M Q X ⟨a, r, rfl, ms, ⟨b, rfl, b0, b1⟩, q⟩ -
  wp_walk using g_l_size
  refine take_of ms (by omega) (by omega) fun n1 a1 c1 => take_of ms (by omega) (by omega) fun n2 a2 c2 => take_of ms (by omega) (by omega) fun n3 a3 c3 => pick_of ms rfl (by simp) (by simp) fun d hd => ?_
  have fin : ∀ n : Int, 0 ≤ n → goMod (.int n) (.int (b + 1)) M Q := fun n hn => ⟨by omega, q _ ⟨b, _, rfl, rfl, Int.emod_nonneg _ (by omega), by have := Int.emod_lt_of_pos n (show 0 < b + 1 by omega); omega⟩⟩
  simp only [List.mem_cons, List.not_mem_nil, or_false] at hd
  rcases hd with rfl | rfl | rfl | rfl | rfl | rfl <;> exact fin _ (by omega)
theorem size_dr {M : Mem} {a : Addr} {b : Int} {Q : D → Mem → Prop} {X : Addr → Mem → Prop} (ms : M a = some .st) (h0 : 0 ≤ b) (h1 : b ≤ 1000) (h : ∀ n : Int, 0 ≤ n → n ≤ b → Q (.int n) M) : fs_l_size K [.ref a, .int b] M Q X :=
  ⟨a, _, rfl, ms, ⟨b, rfl, h0, h1⟩, fun d ⟨b', n, e, e2, h3, h4⟩ => by cases e; subst e2; exact h n h3 h4⟩

end LW
namespace LW
open PySem PySem.Spec PySem.W PyProof.Rows L2 DL
local macro_rules | `(tactic| wp_walk) => `(tactic| simp only [gSeq, gSet, gRet, gRetN, gNext, gIfS, gDrop, gOwn, gApp, gExt, gForM, gLcM, gCnt, gTryV, gTryE, gxP, gxM, DL.Fr.mute, gIPut, gFrz, frz, gAsg, gPar, gPar3, gAug, gRaise, gRetM, gSetM, gMPut, gMGet, g1, g2, gC, gV, gVw, gB, gAnd, gOr, gNot, gNotV, gIf, DL.gCons, DL.gNil, DL.gTup, DL.gLst, gFl, gFd, gCa, gLenS, gPart, gNoP, gDisp, gPcons, gPnil, gtN, gtTup, gtCons, gtNil, gYes, gFor, gLc, giS, gCallP, gCallM, gScr, entry, aSls, aSl, DL.Fr.set, OM.d, wipeF, wipeS, keyD, List.length_cons, List.length_nil, List.cons_append, List.nil_append, List.append_nil, List.replicate_succ, List.replicate_zero, List.getElem?_cons_zero, List.getElem?_cons_succ, List.getElem?_nil, List.set_cons_zero, List.set_cons_succ, Nat.reduceAdd, Nat.reduceSub, if_true, if_false, ite_true, ite_false, reduceIte, Bool.false_eq_true, Bool.not_true, Bool.not_false, List.all_cons, List.all_nil, Bool.and_true, true_and, and_true, List.map_cons, List.map_nil, gIdx, ixT_ints, intsOf_map, Int.reduceToNat, Option.some.injEq, exists_eq_left', goAdd_int, goAdd_str, goAdd_tup, goAdd_lst, goAddW_int, goAddW_lst, goPlus_int, goI_int, guI_int, gcI1_int, goIx_lst, gcLen_lst, gcTupleS_lst, gcList_lst, goRevA_lst, goIx_tup, gcLen_tup, gcTupleS_tup, gcList_tup, goRevA_tup, gcTuple_lst, goIx_str, gcLen_str, gcInt_int, gcInt_bl, goMulT_tup, goMulL_lst, goIsB_bl, goIsN_non, isN_int, isN_bl, isN_str, isN_tup, isN_lst, isN_dic, isN_ref, isN_ty, isN_non, gTru_k, truK_non, truK_bl, truK_int, truK_lst, truK_tup, truK_str, gFlist_k, lstK_lst, lstK_tup, gsSl_k, slK_lst, slK_tup, slK_str, itsD_k, itsK_lst, itsK_tup, giZip_k, zipK_lst, zipK_tup, giR1_k, ran1K_nat, ran1K_int, giR2_k, ran2K_int, goLtA_int, goLtA_tup, ok_non, eqv_bl, goEq_int, goNe_int, goEq_bl, goNe_bl, gcMin_ints, gcMinT_ints, gcMax_ints, gcMaxT_ints, intsOf_mapf, blsOf_mapf, gcMin_f, gcMax_f, gcMin_2, gcMax_2, gcSum_ints, gcSum_f, gcBls_f, all_mapid, any_mapid, at_0, at_1, at_2, at_3, at_last, noOwn_nil, noOwn_1, noOwn_2, nof_n, nof_v, nof_b, nof_s, zipD_map, enumD_map, isi_non_int, isi_non_bool, isi_non_str, isi_non_tuple, isi_non_list, isi_non_dict, isi_bl_int, isi_bl_bool, isi_bl_str, isi_bl_tuple, isi_bl_list, isi_bl_dict, isi_int_int, isi_int_bool, isi_int_str, isi_int_tuple, isi_int_list, isi_int_dict, isi_str_int, isi_str_bool, isi_str_str, isi_str_tuple, isi_str_list, isi_str_dict, isi_tup_int, isi_tup_bool, isi_tup_str, isi_tup_tuple, isi_tup_list, isi_tup_dict, isi_lst_int, isi_lst_bool, isi_lst_str, isi_lst_tuple, isi_lst_list, isi_lst_dict, isi_dic_int, isi_dic_bool, isi_dic_str, isi_dic_tuple, isi_dic_list, isi_dic_dict, gcAll, gcAny, goMod, goFdiv, decide_eq_true_eq, Bool.not_eq_true', decide_eq_false_iff_not, ite_not, Bool.and_eq_true, not_false_eq_true, Bool.not_eq_true, List.map_append, Int.zero_add, List.any_cons, List.any_nil, Bool.true_and, Bool.or_false, Bool.xor_false, Bool.false_xor, Bool.true_xor, Bool.not_not, forall_const, Int.toNat_natCast, List.length_map, List.length_append, and_self, ne_eq, List.map_eq_nil_iff, not_true_eq_false, eq_self, goMulI, goSub, goPow, goLe, goGt, goGe, guNeg, gcAbs, goEq_str, goNe_str, goEq_tup, goNe_tup, goEq_lst, goNe_lst, goEq_non, goNe_non, gAndV_k, gOrV_k, gCh_k, blK_bl, ite_bf, reduceCtorEq, Int.reducePow, Int.reduceLT, Int.reduceLE, Int.reduceNeg, sz0, se0, sz1, se1, sz2, se2, sz3, se3, sz4, se4, sz5, se5, sz6, se6, sz7, se7, sz8, se8, sz9, se9, gFld, fldK_ref, gPutF, gPutFM, putFK_ref, gDrf, drfK_ref, gMApp, mlK_ref, gMPop, popK_int, gMIns, ins2K_2, insK_int, gMeth, mthK_ref, gMake, giR3, gFlR1, gFlR2, rg2K_int, gLenSet, lenSetK_lst, lenSetK_tup, gMinD, minDK_lst, giMem, giBA, gMIdx, goTab, gFsort, sortK_lst, sortK_tup])
local macro_rules | `(tactic| wp_walk using $ts,*) => `(tactic| simp only [$[$ts:term],*, gSeq, gSet, gRet, gRetN, gNext, gIfS, gDrop, gOwn, gApp, gExt, gForM, gLcM, gCnt, gTryV, gTryE, gxP, gxM, DL.Fr.mute, gIPut, gFrz, frz, gAsg, gPar, gPar3, gAug, gRaise, gRetM, gSetM, gMPut, gMGet, g1, g2, gC, gV, gVw, gB, gAnd, gOr, gNot, gNotV, gIf, DL.gCons, DL.gNil, DL.gTup, DL.gLst, gFl, gFd, gCa, gLenS, gPart, gNoP, gDisp, gPcons, gPnil, gtN, gtTup, gtCons, gtNil, gYes, gFor, gLc, giS, gCallP, gCallM, gScr, entry, aSls, aSl, DL.Fr.set, OM.d, wipeF, wipeS, keyD, List.length_cons, List.length_nil, List.cons_append, List.nil_append, List.append_nil, List.replicate_succ, List.replicate_zero, List.getElem?_cons_zero, List.getElem?_cons_succ, List.getElem?_nil, List.set_cons_zero, List.set_cons_succ, Nat.reduceAdd, Nat.reduceSub, if_true, if_false, ite_true, ite_false, reduceIte, Bool.false_eq_true, Bool.not_true, Bool.not_false, List.all_cons, List.all_nil, Bool.and_true, true_and, and_true, List.map_cons, List.map_nil, gIdx, ixT_ints, intsOf_map, Int.reduceToNat, Option.some.injEq, exists_eq_left', goAdd_int, goAdd_str, goAdd_tup, goAdd_lst, goAddW_int, goAddW_lst, goPlus_int, goI_int, guI_int, gcI1_int, goIx_lst, gcLen_lst, gcTupleS_lst, gcList_lst, goRevA_lst, goIx_tup, gcLen_tup, gcTupleS_tup, gcList_tup, goRevA_tup, gcTuple_lst, goIx_str, gcLen_str, gcInt_int, gcInt_bl, goMulT_tup, goMulL_lst, goIsB_bl, goIsN_non, isN_int, isN_bl, isN_str, isN_tup, isN_lst, isN_dic, isN_ref, isN_ty, isN_non, gTru_k, truK_non, truK_bl, truK_int, truK_lst, truK_tup, truK_str, gFlist_k, lstK_lst, lstK_tup, gsSl_k, slK_lst, slK_tup, slK_str, itsD_k, itsK_lst, itsK_tup, giZip_k, zipK_lst, zipK_tup, giR1_k, ran1K_nat, ran1K_int, giR2_k, ran2K_int, goLtA_int, goLtA_tup, ok_non, eqv_bl, goEq_int, goNe_int, goEq_bl, goNe_bl, gcMin_ints, gcMinT_ints, gcMax_ints, gcMaxT_ints, intsOf_mapf, blsOf_mapf, gcMin_f, gcMax_f, gcMin_2, gcMax_2, gcSum_ints, gcSum_f, gcBls_f, all_mapid, any_mapid, at_0, at_1, at_2, at_3, at_last, noOwn_nil, noOwn_1, noOwn_2, nof_n, nof_v, nof_b, nof_s, zipD_map, enumD_map, isi_non_int, isi_non_bool, isi_non_str, isi_non_tuple, isi_non_list, isi_non_dict, isi_bl_int, isi_bl_bool, isi_bl_str, isi_bl_tuple, isi_bl_list, isi_bl_dict, isi_int_int, isi_int_bool, isi_int_str, isi_int_tuple, isi_int_list, isi_int_dict, isi_str_int, isi_str_bool, isi_str_str, isi_str_tuple, isi_str_list, isi_str_dict, isi_tup_int, isi_tup_bool, isi_tup_str, isi_tup_tuple, isi_tup_list, isi_tup_dict, isi_lst_int, isi_lst_bool, isi_lst_str, isi_lst_tuple, isi_lst_list, isi_lst_dict, isi_dic_int, isi_dic_bool, isi_dic_str, isi_dic_tuple, isi_dic_list, isi_dic_dict, gcAll, gcAny, goMod, goFdiv, decide_eq_true_eq, Bool.not_eq_true', decide_eq_false_iff_not, ite_not, Bool.and_eq_true, not_false_eq_true, Bool.not_eq_true, List.map_append, Int.zero_add, List.any_cons, List.any_nil, Bool.true_and, Bool.or_false, Bool.xor_false, Bool.false_xor, Bool.true_xor, Bool.not_not, forall_const, Int.toNat_natCast, List.length_map, List.length_append, and_self, ne_eq, List.map_eq_nil_iff, not_true_eq_false, eq_self, goMulI, goSub, goPow, goLe, goGt, goGe, guNeg, gcAbs, goEq_str, goNe_str, goEq_tup, goNe_tup, goEq_lst, goNe_lst, goEq_non, goNe_non, gAndV_k, gOrV_k, gCh_k, blK_bl, ite_bf, reduceCtorEq, Int.reducePow, Int.reduceLT, Int.reduceLE, Int.reduceNeg, sz0, se0, sz1, se1, sz2, se2, sz3, se3, sz4, se4, sz5, se5, sz6, se6, sz7, se7, sz8, se8, sz9, se9, gFld, fldK_ref, gPutF, gPutFM, putFK_ref, gDrf, drfK_ref, gMApp, mlK_ref, gMPop, popK_int, gMIns, ins2K_2, insK_int, gMeth, mthK_ref, gMake, giR3, gFlR1, gFlR2, rg2K_int, gLenSet, lenSetK_lst, lenSetK_tup, gMinD, minDK_lst, giMem, giBA, gMIdx, goTab, gFsort, sortK_lst, sortK_tup])
variable {K : PySem.W.Frag}
/-! the program's plain.py: things, sorts -/
def isThing : D → Bool
  | .int x => decide (0 ≤ x) && decide (x ≤ 999999)
  | _ => false
def fs_p_is_thing (K : PySem.W.Frag) : FS := fun ds M Q _ => ∃ d, ds = [d] ∧ d.da = true ∧ Q (.bl (isThing d)) M
theorem mo_p_is_thing {K : PySem.W.Frag} : MonoF (fs_p_is_thing K) := fun _ _ _ _ _ _ h _ ⟨d, e, c, q⟩ => ⟨d, e, c, h _ _ q⟩
/-- is_thing -/
def g_p_is_thing (K : PySem.W.Frag) : GS := gRet (gAndV (gCa gcIsi (gCons (gV 0) (gCons (gC (.ty "int")) gNil))) (gAndV (gNotV (gCa gcIsi (gCons (gV 0) (gCons (gC (.ty "bool")) gNil)))) (gCh goLe goLe (gC (.int 0)) (gV 0) (gC (.int 999999)))))
theorem h_p_is_thing {K : PySem.W.Frag} : ∀ ds M Q X, (fs_p_is_thing K) ds M Q X → ds.length = ([.v] : List AK).length → g_p_is_thing K { nx := fun _ M' => Q .non M', rt := Q } (entry 1 [.v] ds X) M := by
  rintro ds M Q X ⟨d, rfl, ht, q⟩ -
  wp_walk using g_p_is_thing
  cases d
  case int x =>
    wp_walk
    by_cases h : 0 ≤ x
    · simpa [isThing, h] using q
    · simpa [isThing, h] using q
  all_goals first | (simp [D.da] at ht; done) | (wp_walk; exact q)
def isSort (d : D) : Bool := match d with
  | .str z => decide (z ∈ (["set", "row", "map"] : List PySem.Str))
  | _ => false
def fs_p_need_sort (K : PySem.W.Frag) : FS := fun ds M Q X => ∃ d, ds = [d] ∧ d.da = true ∧ (isSort d = true → Q .non M) ∧ (isSort d = false → X (He.ga K "NoSort") M)
theorem mo_p_need_sort {K : PySem.W.Frag} : MonoF (fs_p_need_sort K) := fun _ _ _ _ _ _ h hx ⟨d, e, c, q, q2⟩ => ⟨d, e, c, fun z => h _ _ (q z), fun z => hx _ _ (q2 z)⟩
/-- need_sort -/
def g_p_need_sort (K : PySem.W.Frag) : GS := gIfS (gOr (gNot (gTru (gCa gcIsi (gCons (gV 0) (gCons (gC (.ty "str")) gNil))))) (gB (g2 (goTab (He.ga K "WORDS") ["set", "row", "map"] true) (gV 0) (gC (.ref (He.ga K "WORDS")))))) (gRaise (He.ga K "NoSort")) (gNext)
theorem h_p_need_sort {K : PySem.W.Frag} : ∀ ds M Q X, (fs_p_need_sort K) ds M Q X → ds.length = ([.v] : List AK).length → g_p_need_sort K { nx := fun _ M' => Q .non M', rt := Q } (entry 1 [.v] ds X) M := by
  rintro ds M Q X ⟨d, rfl, ht, q, q2⟩ -
  wp_walk using g_p_need_sort
  cases d
  case str z =>
    wp_walk
    by_cases h : z ∈ (["set", "row", "map"] : List PySem.Str)
    · rw [if_pos h]
      exact q (decide_eq_true h)
    · rw [if_neg h]
      exact q2 (decide_eq_false h)
  all_goals first | (simp [D.da] at ht; done) | (wp_walk; exact q2 rfl)
/-- a pair of things -/
def isPair : D → Bool
  | .tup [a, b] => isThing a && isThing b
  | _ => false
def fs_p_is_pair (K : PySem.W.Frag) : FS := fun ds M Q _ => ∃ d, ds = [d] ∧ d.da = true ∧ Q (.bl (isPair d)) M
theorem mo_p_is_pair {K : PySem.W.Frag} : MonoF (fs_p_is_pair K) := fun _ _ _ _ _ _ h _ ⟨d, e, c, q⟩ => ⟨d, e, c, h _ _ q⟩
theorem thing_of {M : Mem} {d : D} {Q : D → Mem → Prop} {X : Addr → Mem → Prop} (h : d.da = true) (q : Q (.bl (isThing d)) M) : fs_p_is_thing K [d] M Q X := ⟨d, rfl, h, q⟩
/-- is_pair -/
def g_p_is_pair (K : PySem.W.Frag) : GS := gRet (gAndV (gCa gcIsi (gCons (gV 0) (gCons (gC (.ty "tuple")) gNil))) (gAndV (g2 goEqA (gCa gcLen (gCons (gV 0) gNil)) (gC (.int 2))) (gAndV (gCallP (fs_p_is_thing K) (gCons (g2 goIx (gV 0) (gC (.int 0))) gNil)) (gCallP (fs_p_is_thing K) (gCons (g2 goIx (gV 0) (gC (.int 1))) gNil)))))
theorem h_p_is_pair {K : PySem.W.Frag} : ∀ ds M Q X, (fs_p_is_pair K) ds M Q X → ds.length = ([.v] : List AK).length → g_p_is_pair K { nx := fun _ M' => Q .non M', rt := Q } (entry 1 [.v] ds X) M := by
  rintro ds M Q X ⟨d, rfl, ht, q⟩ -
  wp_walk using g_p_is_pair
  cases d
  case tup xs =>
    rcases xs with _ | ⟨a, _ | ⟨b, _ | ⟨c, xs⟩⟩⟩
    · wp_walk
      exact q
    · wp_walk
      exact q
    · have h := D.da_tup ▸ ht
      have ha : a.da = true := D.daL_mem h a (by simp)
      have hb : b.da = true := D.daL_mem h b (by simp)
      have e0 : atI [a, b] 0 = some a := by rfl
      have e1 : atI [a, b] 1 = some b := by rfl
      wp_walk using e0, e1
      rw [if_pos (by rfl)]
      refine thing_of (K := K) ha ?_
      cases z : isThing a with
      | false =>
        wp_walk
        simpa [isPair, z] using q
      | true =>
        wp_walk using e1
        refine thing_of (K := K) hb ?_
        wp_walk
        simpa [isPair, z] using q
    · wp_walk
      rw [if_neg (by omega)]
      exact q
  all_goals first | (simp [D.da] at ht; done) | (wp_walk; exact q)
def fs_p_are_unlike (K : PySem.W.Frag) : FS := fun ds M Q _ => ∃ (d : D) (ns : List Int), ds = [d] ∧ seqOf d = some (ns.map .int) ∧ ns.length ≤ 4000 ∧ Q (.bl (decide ns.Nodup)) M
theorem mo_p_are_unlike {K : PySem.W.Frag} : MonoF (fs_p_are_unlike K) := fun _ _ _ _ _ _ h _ ⟨d, ns, e, c, c2, q⟩ => ⟨d, ns, e, c, c2, h _ _ q⟩
/-- are_unlike -/
def g_p_are_unlike (K : PySem.W.Frag) : GS := gRet (g2 goEqA (gLenSet (gV 0)) (gCa gcLen (gCons (gV 0) gNil)))
theorem h_p_are_unlike {K : PySem.W.Frag} : ∀ ds M Q X, (fs_p_are_unlike K) ds M Q X → ds.length = ([.v] : List AK).length → g_p_are_unlike K { nx := fun _ M' => Q .non M', rt := Q } (entry 1 [.v] ds X) M := by
  rintro ds M Q X ⟨d, ns, rfl, hs, hl, q⟩ -
  cases d <;> simp only [seqOf, reduceCtorEq, Option.some.injEq] at hs <;> subst hs
  all_goals
    wp_walk using g_p_are_unlike, lenSetK_tup, lenSetK_lst
    refine ⟨hl, fun L hL => ?_⟩
    have e : decide ((L.length : Int) = (ns.length : Nat)) = decide ns.Nodup := by
      rw [Bool.eq_iff_iff, decide_eq_true_eq, decide_eq_true_eq, ← hL.iff]
      omega
    rw [← e] at q
    exact q
/-- a key and a value -/
def pI (p : Int × Int) : D := .tup [.int p.1, .int p.2]
def pairsOf : List D → Option (List (Int × Int))
  | [] => some []
  | .tup [.int a, .int b] :: r => (pairsOf r).map ((a, b) :: ·)
  | _ => none
theorem pairsOf_map : ∀ ps : List (Int × Int), pairsOf (ps.map pI) = some ps
  | [] => rfl
  | p :: ps => by
    show (pairsOf (ps.map pI)).map _ = _
    rw [pairsOf_map ps]
    rfl
theorem isPair_inv {d : D} (h : isPair d = true) : ∃ p : Int × Int, d = pI p ∧ (0 ≤ p.1 ∧ p.1 ≤ 999999) ∧ 0 ≤ p.2 ∧ p.2 ≤ 999999 := by
  unfold isPair at h
  split at h
  · rename_i a b
    rw [Bool.and_eq_true] at h
    have th : ∀ {d : D}, isThing d = true → ∃ x, d = .int x ∧ 0 ≤ x ∧ x ≤ 999999 := fun {d} h => by
      cases d <;> first | (cases h; done) | skip
      rename_i x
      have h2 : (decide (0 ≤ x) && decide (x ≤ 999999)) = true := h
      rw [Bool.and_eq_true, decide_eq_true_eq, decide_eq_true_eq] at h2
      exact ⟨x, rfl, h2⟩
    obtain ⟨x, rfl, hx⟩ := th h.1
    obtain ⟨y, rfl, hy⟩ := th h.2
    exact ⟨(x, y), rfl, hx, hy⟩
  · cases h
theorem pairs_of : ∀ {xs : List D}, xs.all isPair = true → ∃ ps : List (Int × Int), xs = ps.map pI ∧ ∀ p ∈ ps, (0 ≤ p.1 ∧ p.1 ≤ 999999) ∧ 0 ≤ p.2 ∧ p.2 ≤ 999999
  | [], _ => ⟨[], rfl, by simp⟩
  | x :: xs, h => by
    rw [List.all_cons, Bool.and_eq_true] at h
    obtain ⟨p, rfl, hp⟩ := isPair_inv h.1
    obtain ⟨ps, rfl, hps⟩ := pairs_of h.2
    refine ⟨p :: ps, rfl, fun q hq => ?_⟩
    rcases List.mem_cons.mp hq with rfl | hq
    · exact hp
    · exact hps q hq
/-- what lies on a set -/
def isSetB : D → Bool
  | .tup xs => decide (xs.length ≤ 40) && (xs.all isThing && match intsOf xs with
    | some ns => decide ns.Nodup
    | none => false)
  | _ => false
def isRowB : D → Bool
  | .tup xs => decide (xs.length ≤ 40) && xs.all isThing
  | _ => false
def isMapB : D → Bool
  | .tup xs => decide (xs.length ≤ 40) && (xs.all isPair && match pairsOf xs with
    | some ps => decide (ps.map (·.1)).Nodup
    | none => false)
  | _ => false
/-- the sorts of shelves -/
inductive So where
  | set | row | map
def So.s : So → PySem.Str
  | .set => "set"
  | .row => "row"
  | .map => "map"
/-- what lies on a shelf of a sort -/
def lieB : So → D → Bool
  | .set => isSetB
  | .row => isRowB
  | .map => isMapB
theorem isSort_iff {d : D} (h : isSort d = true) : ∃ so : So, d = .str so.s := by
  cases d <;> first | (cases h; done) | skip
  rename_i z
  have h2 := of_decide_eq_true h
  simp only [List.mem_cons, List.not_mem_nil, or_false] at h2
  rcases h2 with rfl | rfl | rfl
  · exact ⟨.set, rfl⟩
  · exact ⟨.row, rfl⟩
  · exact ⟨.map, rfl⟩
theorem isSort_so (so : So) : isSort (.str so.s) = true := by cases so <;> decide +kernel
theorem things_ints {xs : List D} (h : xs.all isThing = true) : ∃ ns : List Int, xs = ns.map .int ∧ ∀ n ∈ ns, 0 ≤ n ∧ n ≤ 999999 := by
  obtain ⟨ns, e, _, h2⟩ := ints_of (P := fun n => 0 ≤ n ∧ n ≤ 999999) (xs := xs) fun d hd => by
    have := List.all_eq_true.mp h d hd
    cases d <;> first | (cases this; done) | skip
    rename_i x
    have h2 : (decide (0 ≤ x) && decide (x ≤ 999999)) = true := this
    rw [Bool.and_eq_true, decide_eq_true_eq, decide_eq_true_eq] at h2
    exact ⟨x, rfl, h2⟩
  exact ⟨ns, e, h2⟩
def fs_p_is_things (K : PySem.W.Frag) : FS := fun ds M Q X => ∃ s d, ds = [s, d] ∧ s.da = true ∧ d.da = true ∧ (isSort s = false → X (He.ga K "NoSort") M) ∧ ∀ so : So, s = .str so.s → Q (.bl (lieB so d)) M
theorem mo_p_is_things {K : PySem.W.Frag} : MonoF (fs_p_is_things K) := fun _ _ _ _ _ _ h hx ⟨s, d, e, c, c2, q1, q2⟩ => ⟨s, d, e, c, c2, fun z => hx _ _ (q1 z), fun so z => h _ _ (q2 so z)⟩
/-- is_things -/
def af1_p_is_things (K : PySem.W.Frag) : GS := gRet (gOrV (g2 goEqA (gV 0) (gC (.str "row"))) (gCallP (fs_p_are_unlike K) (gCons (gV 1) gNil)))
def af2_p_is_things (K : PySem.W.Frag) : GS := gSeq (gIfS (gNot (gTru (gCa gcAll (gCons (gFd (gLc (itsD (fun ds => ds) (gV 1)) (gtN 2) (gYes) (gCallP (fs_p_is_thing K) (gCons (gV 2) gNil)) [2])) gNil)))) (gRet (gC (.bl false))) (gNext)) (af1_p_is_things K)
def af3_p_is_things (K : PySem.W.Frag) : GS := gSeq (gIfS (gB (g2 goEqA (gV 0) (gC (.str "map")))) (gRet (gAndV (gCa gcAll (gCons (gFd (gLc (itsD (fun ds => ds) (gV 1)) (gtN 2) (gYes) (gCallP (fs_p_is_pair K) (gCons (gV 2) gNil)) [2])) gNil)) (gCallP (fs_p_are_unlike K) (gCons (gFd (gLc (itsD (fun ds => ds) (gV 1)) (gtN 2) (gYes) (g2 goIx (gV 2) (gC (.int 0))) [2])) gNil)))) (gNext)) (af2_p_is_things K)
def g_p_is_things (K : PySem.W.Frag) : GS := gSeq (gDrop (gCallP (fs_p_need_sort K) (gCons (gV 0) gNil))) (gSeq (gIfS (gOr (gNot (gTru (gCa gcIsi (gCons (gV 1) (gCons (gC (.ty "tuple")) gNil))))) (gB (g2 goGt (gCa gcLen (gCons (gV 1) gNil)) (gC (.int 40))))) (gRet (gC (.bl false))) (gNext)) (af3_p_is_things K))
theorem h_p_is_things {K : PySem.W.Frag} : ∀ ds M Q X, (fs_p_is_things K) ds M Q X → ds.length = ([.v, .v] : List AK).length → g_p_is_things K { nx := fun _ M' => Q .non M', rt := Q } (entry 3 [.v, .v] ds X) M := by
  rintro ds M Q X ⟨s, d, rfl, hs, hd, q1, q2⟩ -
  wp_walk using g_p_is_things
  refine ⟨s, rfl, hs, fun hso => ?_, q1⟩
  obtain ⟨so, rfl⟩ := isSort_iff hso
  have q := q2 so rfl
  have fin : (∀ xs, d ≠ .tup xs) → Q (.bl false) M := fun h => by
    have e2 : lieB so d = false := by cases so <;> cases d <;> first | rfl | exact absurd rfl (h _)
    rwa [e2] at q
  wp_walk
  cases d
  case tup xs =>
    wp_walk
    by_cases hl : (40 : Int) < (xs.length : Nat)
    · rw [if_pos hl]
      have hl' : decide (xs.length ≤ 40) = false := decide_eq_false (by omega)
      have e2 : lieB so (.tup xs) = false := by
        cases so
        · simp [lieB, isSetB, hl']
        · simp [lieB, isRowB, hl']
        · simp [lieB, isMapB, hl']
      rwa [e2] at q
    · rw [if_neg hl]
      have hl' : decide (xs.length ≤ 40) = true := decide_eq_true (by omega)
      have hl2 : xs.length ≤ 40 := by omega
      have hda : ∀ d ∈ xs, d.da = true := D.daL_mem (D.da_tup ▸ hd)
      have eb : ∀ f : D → Bool, blsOf ([] ++ xs.map fun d => D.bl (f d)) = some (xs.map f) := fun f => by
        rw [List.nil_append, show (xs.map fun d => D.bl (f d)) = (xs.map f).map D.bl by rw [List.map_map]; rfl]
        exact blsOf_map _
      have ea : ∀ f : D → Bool, (xs.map f).all _root_.id = xs.all f := fun f => by rw [List.all_map]; rfl
      cases so
      case set =>
        wp_walk using af3_p_is_things, af2_p_is_things, So.s
        rw [if_neg (by decide)]
        refine lc_map (fun d => .bl (isThing d)) (fun d hd Q' q' => ?_) (size_of (by rw [List.length_nil]; omega)) ?_
        · wp_walk
          exact thing_of (K := K) (hda d hd) q'
        · refine ⟨_, eb isThing, ?_⟩
          dsimp only
          rw [ea]
          cases ht : xs.all isThing with
          | false =>
            wp_walk
            simpa [lieB, isSetB, hl', ht] using q
          | true =>
            obtain ⟨ns, rfl, hn⟩ := things_ints ht
            wp_walk using af1_p_is_things
            rw [if_neg (by decide)]
            wp_walk
            refine ⟨.tup (ns.map .int), ns, rfl, rfl, by rw [List.length_map] at hl2; omega, ?_⟩
            have hl2 : ns.length ≤ 40 := by simpa using hl'
            simpa [lieB, isSetB, hl2, ht, intsOf_map] using q
      case row =>
        wp_walk using af3_p_is_things, af2_p_is_things, So.s
        rw [if_neg (by decide)]
        refine lc_map (fun d => .bl (isThing d)) (fun d hd Q' q' => ?_) (size_of (by rw [List.length_nil]; omega)) ?_
        · wp_walk
          exact thing_of (K := K) (hda d hd) q'
        · refine ⟨_, eb isThing, ?_⟩
          dsimp only
          rw [ea]
          cases ht : xs.all isThing with
          | false =>
            wp_walk
            simpa [lieB, isRowB, hl', ht] using q
          | true =>
            wp_walk using af1_p_is_things
            simpa [lieB, isRowB, hl', ht] using q
      case map =>
        wp_walk using af3_p_is_things, af2_p_is_things, So.s
        refine lc_map (fun d => .bl (isPair d)) (fun d hd Q' q' => ?_) (size_of (by rw [List.length_nil]; omega)) ?_
        · wp_walk
          exact ⟨d, rfl, hda d hd, q'⟩
        · refine ⟨_, eb isPair, ?_⟩
          dsimp only
          rw [ea]
          cases ht : xs.all isPair with
          | false =>
            wp_walk
            simpa [lieB, isMapB, hl', ht] using q
          | true =>
            obtain ⟨ps, rfl, hn⟩ := pairs_of ht
            have hl3 : ps.length ≤ 40 := by simpa using hl'
            wp_walk
            refine lc_mp (xs := ps) (enc := pI) (f := fun p => .int p.1) (fun p hp Q' q' => ?_) (size_of (by rw [List.length_nil]; omega)) ?_
            · wp_walk using pI
              exact q'
            · rw [List.nil_append, show (ps.map fun p => D.int p.1) = (ps.map (·.1)).map D.int by rw [List.map_map]; rfl]
              refine ⟨.lst ((ps.map (·.1)).map .int), ps.map (·.1), rfl, rfl, by rw [List.length_map]; omega, ?_⟩
              simpa [lieB, isMapB, hl3, ht, pairsOf_map] using q
  all_goals first | (simp [D.da] at hd; done) | (wp_walk; exact fin fun xs z => by cases z)
def fs_p_need_set (K : PySem.W.Frag) : FS := fun ds M Q X => ∃ d, ds = [d] ∧ d.da = true ∧ (isSetB d = true → Q .non M) ∧ (isSetB d = false → X (He.ga K "NoThings") M)
theorem mo_p_need_set {K : PySem.W.Frag} : MonoF (fs_p_need_set K) := fun _ _ _ _ _ _ h hx ⟨d, e, c, q, q2⟩ => ⟨d, e, c, fun z => h _ _ (q z), fun z => hx _ _ (q2 z)⟩
/-- need_set -/
def g_p_need_set (K : PySem.W.Frag) : GS := gIfS (gNot (gTru (gCallP (fs_p_is_things K) (gCons (gC (.str "set")) (gCons (gV 0) gNil))))) (gRaise (He.ga K "NoThings")) (gNext)
theorem h_p_need_set {K : PySem.W.Frag} : ∀ ds M Q X, (fs_p_need_set K) ds M Q X → ds.length = ([.v] : List AK).length → g_p_need_set K { nx := fun _ M' => Q .non M', rt := Q } (entry 1 [.v] ds X) M := by
  rintro ds M Q X ⟨d, rfl, hd, q, q2⟩ -
  wp_walk using g_p_need_set
  refine ⟨.str "set", d, rfl, rfl, hd, fun z => (by cases z), fun so e => ?_⟩
  have e2 : so = .set := by cases so <;> first | rfl | exact absurd (D.str.inj e) (by decide)
  subst e2
  show (if isSetB d = true then _ else _)
  cases h : isSetB d with
  | true =>
    wp_walk
    exact q h
  | false =>
    wp_walk
    exact q2 h
def fs_p_need_member (K : PySem.W.Frag) : FS := fun ds M Q X => ∃ d, ds = [d] ∧ d.da = true ∧ (isThing d = true → Q .non M) ∧ (isThing d = false → X (He.ga K "NoDeed") M)
theorem mo_p_need_member {K : PySem.W.Frag} : MonoF (fs_p_need_member K) := fun _ _ _ _ _ _ h hx ⟨d, e, c, q, q2⟩ => ⟨d, e, c, fun z => h _ _ (q z), fun z => hx _ _ (q2 z)⟩
/-- need_member -/
def g_p_need_member (K : PySem.W.Frag) : GS := gIfS (gNot (gTru (gCallP (fs_p_is_thing K) (gCons (gV 0) gNil)))) (gRaise (He.ga K "NoDeed")) (gNext)
theorem h_p_need_member {K : PySem.W.Frag} : ∀ ds M Q X, (fs_p_need_member K) ds M Q X → ds.length = ([.v] : List AK).length → g_p_need_member K { nx := fun _ M' => Q .non M', rt := Q } (entry 1 [.v] ds X) M := by
  rintro ds M Q X ⟨d, rfl, hd, q, q2⟩ -
  wp_walk using g_p_need_member
  refine thing_of (K := K) hd ?_
  cases h : isThing d with
  | true =>
    wp_walk
    exact q h
  | false =>
    wp_walk
    exact q2 h
def fs_p_need_place (K : PySem.W.Frag) : FS := fun ds M Q X => ∃ d xs, ds = [d] ∧ seqOf d = some xs ∧ (xs.length ≠ 40 → Q .non M) ∧ (xs.length = 40 → X (He.ga K "TooMany") M)
theorem mo_p_need_place {K : PySem.W.Frag} : MonoF (fs_p_need_place K) := fun _ _ _ _ _ _ h hx ⟨d, xs, e, c, q, q2⟩ => ⟨d, xs, e, c, fun z => h _ _ (q z), fun z => hx _ _ (q2 z)⟩
/-- need_place -/
def g_p_need_place (K : PySem.W.Frag) : GS := gIfS (gB (g2 goEqA (gCa gcLen (gCons (gVw 0) gNil)) (gC (.int 40)))) (gRaise (He.ga K "TooMany")) (gNext)
theorem h_p_need_place {K : PySem.W.Frag} : ∀ ds M Q X, (fs_p_need_place K) ds M Q X → ds.length = ([.b] : List AK).length → g_p_need_place K { nx := fun _ M' => Q .non M', rt := Q } (entry 1 [.b] ds X) M := by
  rintro ds M Q X ⟨d, xs, rfl, hs, q, q2⟩ -
  cases d <;> simp only [seqOf, reduceCtorEq, Option.some.injEq] at hs <;> subst hs
  all_goals
    wp_walk using g_p_need_place
    split
    · exact q2 (by omega)
    · exact q (by omega)
/-- the least of those from x on, or -1 -/
def leastFrom (ns : List Int) (x : Int) : Int := mnD (ns.filter fun n => decide (x ≤ n)) (-1)
def fs_p_least_from (K : PySem.W.Frag) : FS := fun ds M Q _ => ∃ (d : D) (ns : List Int) (x : Int), ds = [d, .int x] ∧ seqOf d = some (ns.map .int) ∧ ns.length ≤ 1000 ∧ Q (.int (leastFrom ns x)) M
theorem mo_p_least_from {K : PySem.W.Frag} : MonoF (fs_p_least_from K) := fun _ _ _ _ _ _ h _ ⟨d, ns, x, e, c, c2, q⟩ => ⟨d, ns, x, e, c, c2, h _ _ q⟩
/-- least_from -/
def g_p_least_from (K : PySem.W.Frag) : GS := gRet (gMinD (gFd (gLc (giBA 0) (gtN 2) (gB (g2 goGe (gV 2) (gV 1))) (gV 2) [2])) (g1 guNeg (gC (.int 1))))
theorem h_p_least_from {K : PySem.W.Frag} : ∀ ds M Q X, (fs_p_least_from K) ds M Q X → ds.length = ([.b, .v] : List AK).length → g_p_least_from K { nx := fun _ M' => Q .non M', rt := Q } (entry 3 [.b, .v] ds X) M := by
  rintro ds M Q X ⟨d, ns, x, rfl, hs, hl, q⟩ -
  cases d <;> simp only [seqOf, reduceCtorEq, Option.some.injEq] at hs <;> subst hs
  all_goals
    wp_walk using g_p_least_from
    refine lc_fp (enc := D.int) (f := D.int) (p := fun n => decide (x ≤ n)) (fun n hn Q' P' y1 y2 => ?_) (size_of (by rw [List.length_nil]; omega)) ?_
    · wp_walk
      by_cases h : x ≤ n
      · rw [if_pos h]
        exact y1 (decide_eq_true h)
      · rw [if_neg h]
        exact y2 (decide_eq_false h)
    · rw [List.nil_append, minDK_lst]
      exact q
theorem eqv_any (x : Int) (ns : List Int) : (ns.map D.int).any (fun z => z.eqv (.int x)) = decide (x ∈ ns) := by
  rw [Bool.eq_iff_iff, decide_eq_true_eq, List.any_eq_true]
  constructor
  · rintro ⟨d, hd, e⟩
    obtain ⟨n, hn, rfl⟩ := List.mem_map.mp hd
    rw [eqv_int] at e
    rw [← of_decide_eq_true e]
    exact hn
  · exact fun h => ⟨_, List.mem_map.mpr ⟨x, h, rfl⟩, by rw [eqv_int, decide_eq_true rfl]⟩
theorem goIn_lstI {neg : Bool} {x : Int} {ns : List Int} {M : Mem} {Q : D → Mem → Prop} : goIn neg (.int x) (.lst (ns.map .int)) M Q = Q (.bl (xor neg (decide (x ∈ ns)))) M := by
  show (((D.int x).ok = true ∧ D.ok (.lst (ns.map .int)) = true) ∧ Q (.bl (xor neg ((ns.map D.int).any fun z => z.eqv (.int x)))) M) = _
  rw [eqv_any, (ok1_lst (ok1_ints ns)).ok]
  exact propext ⟨fun h => h.2, fun h => ⟨⟨(ok1_int x).ok, rfl⟩, h⟩⟩
theorem goIn_tupI {neg : Bool} {x : Int} {ns : List Int} {M : Mem} {Q : D → Mem → Prop} : goIn neg (.int x) (.tup (ns.map .int)) M Q = Q (.bl (xor neg (decide (x ∈ ns)))) M := by
  show (((D.int x).flat = true ∧ (ns.map D.int).all D.flat = true) ∧ Q (.bl (xor neg ((ns.map D.int).any fun z => z.eqv (.int x)))) M) = _
  have e : (ns.map D.int).all D.flat = true := List.all_eq_true.mpr fun d hd => by
    obtain ⟨n, hn, rfl⟩ := List.mem_map.mp hd
    rfl
  rw [eqv_any, e]
  exact propext ⟨fun h => h.2, fun h => ⟨⟨rfl, rfl⟩, h⟩⟩
theorem ixD_intsI (x : Int) (ns : List Int) (h : x ∈ ns) : ∀ k, ixD (ns.map D.int) (.int x) k = some (k + ns.idxOf x) := by
  induction ns with
  | nil => cases h
  | cons y ns ih =>
    intro k
    rw [List.map_cons, ixD, eqv_int, List.idxOf_cons]
    by_cases e : y = x
    · subst e
      rw [decide_eq_true rfl, if_pos rfl, beq_self_eq_true]
      rfl
    · rw [decide_eq_false e, if_neg Bool.false_ne_true, beq_eq_false_iff_ne.mpr e]
      rw [ih ((List.mem_cons.mp h).resolve_left fun z => e z.symm)]
      show some (k + 1 + ns.idxOf x) = some (k + (ns.idxOf x + 1))
      congr 1
      omega
theorem ixM_ints {x : Int} {ns : List Int} {k : Nat → Prop} (h : x ∈ ns) : ixM (ns.map .int) (.int x) k = k (ns.idxOf x) := by
  unfold ixM
  rw [ixD_intsI x ns h 0, Nat.zero_add, (ok1_lst (ok1_ints ns)).ok]
  exact propext ⟨fun h => h.2, fun h => ⟨⟨rfl, (ok1_int x).ok⟩, h⟩⟩
theorem erase_mapP {α β : Type} (f : α → β) : ∀ (l : List α) (i : Nat), (l.map f).eraseIdx i = (l.eraseIdx i).map f
  | [], _ => rfl
  | _ :: _, 0 => rfl
  | x :: l, i + 1 => congrArg (f x :: ·) (erase_mapP f l i)

end LW
namespace LW
open PySem PySem.Spec PySem.W PyProof.Rows L2 DL
local macro_rules | `(tactic| wp_walk) => `(tactic| simp only [gSeq, gSet, gRet, gRetN, gNext, gIfS, gDrop, gOwn, gApp, gExt, gForM, gLcM, gCnt, gTryV, gTryE, gxP, gxM, DL.Fr.mute, gIPut, gFrz, frz, gAsg, gPar, gPar3, gAug, gRaise, gRetM, gSetM, gMPut, gMGet, g1, g2, gC, gV, gVw, gB, gAnd, gOr, gNot, gNotV, gIf, DL.gCons, DL.gNil, DL.gTup, DL.gLst, gFl, gFd, gCa, gLenS, gPart, gNoP, gDisp, gPcons, gPnil, gtN, gtTup, gtCons, gtNil, gYes, gFor, gLc, giS, gCallP, gCallM, gScr, entry, aSls, aSl, DL.Fr.set, OM.d, wipeF, wipeS, keyD, List.length_cons, List.length_nil, List.cons_append, List.nil_append, List.append_nil, List.replicate_succ, List.replicate_zero, List.getElem?_cons_zero, List.getElem?_cons_succ, List.getElem?_nil, List.set_cons_zero, List.set_cons_succ, Nat.reduceAdd, Nat.reduceSub, if_true, if_false, ite_true, ite_false, reduceIte, Bool.false_eq_true, Bool.not_true, Bool.not_false, List.all_cons, List.all_nil, Bool.and_true, true_and, and_true, List.map_cons, List.map_nil, gIdx, ixT_ints, intsOf_map, Int.reduceToNat, Option.some.injEq, exists_eq_left', goAdd_int, goAdd_str, goAdd_tup, goAdd_lst, goAddW_int, goAddW_lst, goPlus_int, goI_int, guI_int, gcI1_int, goIx_lst, gcLen_lst, gcTupleS_lst, gcList_lst, goRevA_lst, goIx_tup, gcLen_tup, gcTupleS_tup, gcList_tup, goRevA_tup, gcTuple_lst, goIx_str, gcLen_str, gcInt_int, gcInt_bl, goMulT_tup, goMulL_lst, goIsB_bl, goIsN_non, isN_int, isN_bl, isN_str, isN_tup, isN_lst, isN_dic, isN_ref, isN_ty, isN_non, gTru_k, truK_non, truK_bl, truK_int, truK_lst, truK_tup, truK_str, gFlist_k, lstK_lst, lstK_tup, gsSl_k, slK_lst, slK_tup, slK_str, itsD_k, itsK_lst, itsK_tup, giZip_k, zipK_lst, zipK_tup, giR1_k, ran1K_nat, ran1K_int, giR2_k, ran2K_int, goLtA_int, goLtA_tup, ok_non, eqv_bl, goEq_int, goNe_int, goEq_bl, goNe_bl, gcMin_ints, gcMinT_ints, gcMax_ints, gcMaxT_ints, intsOf_mapf, blsOf_mapf, gcMin_f, gcMax_f, gcMin_2, gcMax_2, gcSum_ints, gcSum_f, gcBls_f, all_mapid, any_mapid, at_0, at_1, at_2, at_3, at_last, noOwn_nil, noOwn_1, noOwn_2, nof_n, nof_v, nof_b, nof_s, zipD_map, enumD_map, isi_non_int, isi_non_bool, isi_non_str, isi_non_tuple, isi_non_list, isi_non_dict, isi_bl_int, isi_bl_bool, isi_bl_str, isi_bl_tuple, isi_bl_list, isi_bl_dict, isi_int_int, isi_int_bool, isi_int_str, isi_int_tuple, isi_int_list, isi_int_dict, isi_str_int, isi_str_bool, isi_str_str, isi_str_tuple, isi_str_list, isi_str_dict, isi_tup_int, isi_tup_bool, isi_tup_str, isi_tup_tuple, isi_tup_list, isi_tup_dict, isi_lst_int, isi_lst_bool, isi_lst_str, isi_lst_tuple, isi_lst_list, isi_lst_dict, isi_dic_int, isi_dic_bool, isi_dic_str, isi_dic_tuple, isi_dic_list, isi_dic_dict, gcAll, gcAny, goMod, goFdiv, decide_eq_true_eq, Bool.not_eq_true', decide_eq_false_iff_not, ite_not, Bool.and_eq_true, not_false_eq_true, Bool.not_eq_true, List.map_append, Int.zero_add, List.any_cons, List.any_nil, Bool.true_and, Bool.or_false, Bool.xor_false, Bool.false_xor, Bool.true_xor, Bool.not_not, forall_const, Int.toNat_natCast, List.length_map, List.length_append, and_self, ne_eq, List.map_eq_nil_iff, not_true_eq_false, eq_self, goMulI, goSub, goPow, goLe, goGt, goGe, guNeg, gcAbs, goEq_str, goNe_str, goEq_tup, goNe_tup, goEq_lst, goNe_lst, goEq_non, goNe_non, gAndV_k, gOrV_k, gCh_k, blK_bl, ite_bf, reduceCtorEq, Int.reducePow, Int.reduceLT, Int.reduceLE, Int.reduceNeg, sz0, se0, sz1, se1, sz2, se2, sz3, se3, sz4, se4, sz5, se5, sz6, se6, sz7, se7, sz8, se8, sz9, se9, gFld, fldK_ref, gPutF, gPutFM, putFK_ref, gDrf, drfK_ref, gMApp, mlK_ref, gMPop, popK_int, gMIns, ins2K_2, insK_int, gMeth, mthK_ref, gMake, giR3, gFlR1, gFlR2, rg2K_int, gLenSet, lenSetK_lst, lenSetK_tup, gMinD, minDK_lst, giMem, giBA, gMIdx, goTab, gFsort, sortK_lst, sortK_tup])
local macro_rules | `(tactic| wp_walk using $ts,*) => `(tactic| simp only [$[$ts:term],*, gSeq, gSet, gRet, gRetN, gNext, gIfS, gDrop, gOwn, gApp, gExt, gForM, gLcM, gCnt, gTryV, gTryE, gxP, gxM, DL.Fr.mute, gIPut, gFrz, frz, gAsg, gPar, gPar3, gAug, gRaise, gRetM, gSetM, gMPut, gMGet, g1, g2, gC, gV, gVw, gB, gAnd, gOr, gNot, gNotV, gIf, DL.gCons, DL.gNil, DL.gTup, DL.gLst, gFl, gFd, gCa, gLenS, gPart, gNoP, gDisp, gPcons, gPnil, gtN, gtTup, gtCons, gtNil, gYes, gFor, gLc, giS, gCallP, gCallM, gScr, entry, aSls, aSl, DL.Fr.set, OM.d, wipeF, wipeS, keyD, List.length_cons, List.length_nil, List.cons_append, List.nil_append, List.append_nil, List.replicate_succ, List.replicate_zero, List.getElem?_cons_zero, List.getElem?_cons_succ, List.getElem?_nil, List.set_cons_zero, List.set_cons_succ, Nat.reduceAdd, Nat.reduceSub, if_true, if_false, ite_true, ite_false, reduceIte, Bool.false_eq_true, Bool.not_true, Bool.not_false, List.all_cons, List.all_nil, Bool.and_true, true_and, and_true, List.map_cons, List.map_nil, gIdx, ixT_ints, intsOf_map, Int.reduceToNat, Option.some.injEq, exists_eq_left', goAdd_int, goAdd_str, goAdd_tup, goAdd_lst, goAddW_int, goAddW_lst, goPlus_int, goI_int, guI_int, gcI1_int, goIx_lst, gcLen_lst, gcTupleS_lst, gcList_lst, goRevA_lst, goIx_tup, gcLen_tup, gcTupleS_tup, gcList_tup, goRevA_tup, gcTuple_lst, goIx_str, gcLen_str, gcInt_int, gcInt_bl, goMulT_tup, goMulL_lst, goIsB_bl, goIsN_non, isN_int, isN_bl, isN_str, isN_tup, isN_lst, isN_dic, isN_ref, isN_ty, isN_non, gTru_k, truK_non, truK_bl, truK_int, truK_lst, truK_tup, truK_str, gFlist_k, lstK_lst, lstK_tup, gsSl_k, slK_lst, slK_tup, slK_str, itsD_k, itsK_lst, itsK_tup, giZip_k, zipK_lst, zipK_tup, giR1_k, ran1K_nat, ran1K_int, giR2_k, ran2K_int, goLtA_int, goLtA_tup, ok_non, eqv_bl, goEq_int, goNe_int, goEq_bl, goNe_bl, gcMin_ints, gcMinT_ints, gcMax_ints, gcMaxT_ints, intsOf_mapf, blsOf_mapf, gcMin_f, gcMax_f, gcMin_2, gcMax_2, gcSum_ints, gcSum_f, gcBls_f, all_mapid, any_mapid, at_0, at_1, at_2, at_3, at_last, noOwn_nil, noOwn_1, noOwn_2, nof_n, nof_v, nof_b, nof_s, zipD_map, enumD_map, isi_non_int, isi_non_bool, isi_non_str, isi_non_tuple, isi_non_list, isi_non_dict, isi_bl_int, isi_bl_bool, isi_bl_str, isi_bl_tuple, isi_bl_list, isi_bl_dict, isi_int_int, isi_int_bool, isi_int_str, isi_int_tuple, isi_int_list, isi_int_dict, isi_str_int, isi_str_bool, isi_str_str, isi_str_tuple, isi_str_list, isi_str_dict, isi_tup_int, isi_tup_bool, isi_tup_str, isi_tup_tuple, isi_tup_list, isi_tup_dict, isi_lst_int, isi_lst_bool, isi_lst_str, isi_lst_tuple, isi_lst_list, isi_lst_dict, isi_dic_int, isi_dic_bool, isi_dic_str, isi_dic_tuple, isi_dic_list, isi_dic_dict, gcAll, gcAny, goMod, goFdiv, decide_eq_true_eq, Bool.not_eq_true', decide_eq_false_iff_not, ite_not, Bool.and_eq_true, not_false_eq_true, Bool.not_eq_true, List.map_append, Int.zero_add, List.any_cons, List.any_nil, Bool.true_and, Bool.or_false, Bool.xor_false, Bool.false_xor, Bool.true_xor, Bool.not_not, forall_const, Int.toNat_natCast, List.length_map, List.length_append, and_self, ne_eq, List.map_eq_nil_iff, not_true_eq_false, eq_self, goMulI, goSub, goPow, goLe, goGt, goGe, guNeg, gcAbs, goEq_str, goNe_str, goEq_tup, goNe_tup, goEq_lst, goNe_lst, goEq_non, goNe_non, gAndV_k, gOrV_k, gCh_k, blK_bl, ite_bf, reduceCtorEq, Int.reducePow, Int.reduceLT, Int.reduceLE, Int.reduceNeg, sz0, se0, sz1, se1, sz2, se2, sz3, se3, sz4, se4, sz5, se5, sz6, se6, sz7, se7, sz8, se8, sz9, se9, gFld, fldK_ref, gPutF, gPutFM, putFK_ref, gDrf, drfK_ref, gMApp, mlK_ref, gMPop, popK_int, gMIns, ins2K_2, insK_int, gMeth, mthK_ref, gMake, giR3, gFlR1, gFlR2, rg2K_int, gLenSet, lenSetK_lst, lenSetK_tup, gMinD, minDK_lst, giMem, giBA, gMIdx, goTab, gFsort, sortK_lst, sortK_tup])
variable {K : PySem.W.Frag}
/-! things and sets drawn -/
/-- things that lie on a set -/
structure SetN (ns : List Int) : Prop where
  len : ns.length ≤ 40
  rng : ∀ n ∈ ns, 0 ≤ n ∧ n ≤ 999999
  nd : ns.Nodup
theorem isSetB_iff {d : D} : isSetB d = true ↔ ∃ ns : List Int, d = .tup (ns.map .int) ∧ SetN ns := by
  constructor
  · intro h
    cases d <;> first | (cases h; done) | skip
    rename_i xs
    have h' : (decide (xs.length ≤ 40) && (xs.all isThing && match intsOf xs with
      | some ns => decide ns.Nodup
      | none => false)) = true := h
    rw [Bool.and_eq_true, Bool.and_eq_true, decide_eq_true_eq] at h'
    obtain ⟨ns, rfl, hn⟩ := things_ints h'.2.1
    have h3 := h'.2.2
    rw [intsOf_map] at h3
    exact ⟨ns, rfl, by simpa using h'.1, hn, of_decide_eq_true h3⟩
  · rintro ⟨ns, rfl, h1, h2, h3⟩
    show (decide ((ns.map D.int).length ≤ 40) && ((ns.map D.int).all isThing && match intsOf (ns.map D.int) with
      | some ns => decide ns.Nodup
      | none => false)) = true
    have e : (ns.map D.int).all isThing = true := List.all_eq_true.mpr fun d hd => by
      obtain ⟨n, hn, rfl⟩ := List.mem_map.mp hd
      have := h2 n hn
      show (decide (0 ≤ n) && decide (n ≤ 999999)) = true
      rw [decide_eq_true this.1, decide_eq_true this.2]; rfl
    rw [intsOf_map, e, List.length_map, decide_eq_true h1]
    simpa using h3
theorem isThing_int {d : D} (h : isThing d = true) : ∃ x, d = .int x ∧ 0 ≤ x ∧ x ≤ 999999 := by
  cases d <;> first | (cases h; done) | skip
  rename_i x
  have h2 : (decide (0 ≤ x) && decide (x ≤ 999999)) = true := h
  rw [Bool.and_eq_true, decide_eq_true_eq, decide_eq_true_eq] at h2
  exact ⟨x, rfl, h2⟩
def fs_l_thing (K : PySem.W.Frag) : FS := DrawF (fun r => ∃ k : Int, r = [.int k] ∧ 0 ≤ k) fun r d => ∃ n : Int, d = .int n ∧ 0 ≤ n ∧ n ≤ 999999
theorem mo_l_thing {K : PySem.W.Frag} : MonoF (fs_l_thing K) := drawF_mono
theorem at_6_60 {k : Int} (h0 : 0 ≤ k) (h : k < 2) : ∃ b, atI [D.int 6, .int 60] k = some (.int b) ∧ 1 ≤ b ∧ b ≤ 60 := by
  have : k = 0 ∨ k = 1 := by omega
  rcases this with rfl | rfl
  · exact ⟨6, by rfl, by omega, by omega⟩
  · exact ⟨60, by rfl, by omega, by omega⟩
/-- _law_thing -/
def af1_l_thing (K : PySem.W.Frag) : GS := gRet (gCallM (fs_l_pick K) (gCons (gV 0) (gCons (gLst (gCons (gC (.int 0)) (gCons (gC (.int 999999)) (gCons (gC (.int 1)) (gCons (gC (.int 999998)) (gCons (gC (.int 8)) (gCons (gC (.int 7)) gNil))))))) gNil)))
def af2_l_thing (K : PySem.W.Frag) : GS := gSeq (gIfS (gB (g2 goEqA (gV 1) (gC (.int 3)))) (gRet (gCallM (fs_l_take K) (gCons (gV 0) (gCons (gC (.int 1000000)) gNil)))) (gNext)) (af1_l_thing K)
def af3_l_thing (K : PySem.W.Frag) : GS := gSeq (gIfS (gB (g2 goEqA (gV 1) (gC (.int 2)))) (gRet (g2 goAdd (g2 goMulI (gC (.int 8)) (gCallM (fs_l_take K) (gCons (gV 0) (gCons (gC (.int 9)) gNil)))) (gC (.int 3)))) (gNext)) (af2_l_thing K)
def g_l_thing (K : PySem.W.Frag) : GS := gSeq (gIfS (gB (g2 goLtA (gV 1) (gC (.int 2)))) (gRet (gCallM (fs_l_take K) (gCons (gV 0) (gCons (g2 goIx (gLst (gCons (gC (.int 6)) (gCons (gC (.int 60)) gNil))) (gV 1)) gNil)))) (gNext)) (af3_l_thing K)
theorem h_l_thing {K : PySem.W.Frag} : ∀ ds M Q X, (fs_l_thing K) ds M Q X → ds.length = ([.v, .v] : List AK).length → g_l_thing K { nx := fun _ M' => Q .non M', rt := Q } (entry 2 [.v, .v] ds X) M := by
  rintro ds M Q X ⟨a, r, rfl, ms, ⟨k, rfl, k0⟩, q⟩ -
  have fin : ∀ n : Int, 0 ≤ n → n ≤ 999999 → Q (.int n) M := fun n h1 h2 => q _ ⟨n, rfl, h1, h2⟩
  wp_walk using g_l_thing
  by_cases h1 : k < 2
  · rw [if_pos h1]
    obtain ⟨b, eb, b0, b1⟩ := at_6_60 k0 h1
    wp_walk using eb
    exact take_of ms b0 (by omega) fun n n0 n1 => fin n n0 (by omega)
  · rw [if_neg h1]
    wp_walk using af3_l_thing
    split
    · wp_walk
      refine take_of (K := K) ms (by omega) (by omega) fun n n0 n1 => ?_
      wp_walk
      exact ⟨.inl ⟨by omega, by omega⟩, fin _ (by omega) (by omega)⟩
    · wp_walk using af2_l_thing
      split
      · wp_walk
        exact take_of (K := K) ms (by omega) (by omega) fun n n0 n1 => fin n n0 (by omega)
      · wp_walk using af1_l_thing
        refine pick_of (K := K) ms rfl (by simp) (by simp) fun d hd => ?_
        simp only [List.mem_cons, List.not_mem_nil, or_false] at hd
        rcases hd with rfl | rfl | rfl | rfl | rfl | rfl <;> exact fin _ (by omega) (by omega)
theorem thing_dr {M : Mem} {a : Addr} {k : Int} {Q : D → Mem → Prop} {X : Addr → Mem → Prop} (ms : M a = some .st) (h0 : 0 ≤ k) (h : ∀ n : Int, 0 ≤ n → n ≤ 999999 → Q (.int n) M) : fs_l_thing K [.ref a, .int k] M Q X :=
  ⟨a, _, rfl, ms, ⟨k, rfl, h0⟩, fun d ⟨n, e, h1, h2⟩ => by subst e; exact h n h1 h2⟩
theorem forty_inj : ∀ t ∈ [1, 3, 7, 9, 39, 11], ∀ i < 40, ∀ j < 40, (t * i) % 40 = (t * j) % 40 → i = j := by decide
theorem forty_set {f s t a : Int} (f0 : 0 ≤ f) (f1 : f < 1000) (s0 : 1 ≤ s) (s1 : s ≤ 24973) (ht : t = 1 ∨ t = 3 ∨ t = 7 ∨ t = 9 ∨ t = 39 ∨ t = 11) (a0 : 0 ≤ a) : SetN ((List.range 40).map fun k : Nat => f + s * ((a + t * (k : Int)) % 40)) := by
  refine ⟨by simp, fun n hn => ?_, ?_⟩
  · obtain ⟨k, _, rfl⟩ := List.mem_map.mp hn
    have h1 := Int.emod_nonneg (a + t * (k : Int)) (show (40 : Int) ≠ 0 by decide)
    have h2 := Int.emod_lt_of_pos (a + t * (k : Int)) (show (0 : Int) < 40 by decide)
    generalize (a + t * (k : Int)) % 40 = y at h1 h2 ⊢
    have h3 : 0 ≤ s * y := Int.mul_nonneg (by omega) h1
    have h4 : s * y ≤ 24973 * 39 := Int.mul_le_mul s1 (by omega) h1 (by omega)
    omega
  · rw [List.nodup_iff_pairwise_ne, List.pairwise_map]
    refine List.Pairwise.imp_of_mem ?_ List.pairwise_lt_range
    intro i j hi hj hij e
    have hi := List.mem_range.mp hi
    have hj := List.mem_range.mp hj
    have e2 : s * ((a + t * (i : Int)) % 40) = s * ((a + t * (j : Int)) % 40) := by omega
    have e3 := Int.eq_of_mul_eq_mul_left (show s ≠ 0 by omega) e2
    rcases ht with rfl | rfl | rfl | rfl | rfl | rfl <;> omega
def fs_l_forty (K : PySem.W.Frag) : FS := DrawF (fun r => r = []) fun r d => ∃ ns : List Int, d = .tup (ns.map .int) ∧ SetN ns ∧ ns.length = 40
theorem mo_l_forty {K : PySem.W.Frag} : MonoF (fs_l_forty K) := drawF_mono
/-- _law_forty -/
def g_l_forty (K : PySem.W.Frag) : GS := gSeq (gAsg (gTup (gCons (gCallM (fs_l_take K) (gCons (gV 0) (gCons (gC (.int 1000)) gNil))) (gCons (gCallM (fs_l_pick K) (gCons (gV 0) (gCons (gLst (gCons (gC (.int 1)) (gCons (gC (.int 2)) (gCons (gC (.int 8)) (gCons (gC (.int 9)) (gCons (gC (.int 24973)) gNil)))))) gNil))) gNil))) (gtTup (gtCons (gtN 1) (gtCons (gtN 2) gtNil)) 2)) (gSeq (gAsg (gTup (gCons (gCallM (fs_l_pick K) (gCons (gV 0) (gCons (gLst (gCons (gC (.int 1)) (gCons (gC (.int 3)) (gCons (gC (.int 7)) (gCons (gC (.int 9)) (gCons (gC (.int 39)) (gCons (gC (.int 11)) gNil))))))) gNil))) (gCons (gCallM (fs_l_take K) (gCons (gV 0) (gCons (gC (.int 40)) gNil))) gNil))) (gtTup (gtCons (gtN 3) (gtCons (gtN 4) gtNil)) 2)) (gRet (gCa gcTupleS (gCons (gFd (gLc (giR1 (gCons (gC (.int 40)) gNil)) (gtN 5) (gYes) (g2 goAdd (gV 1) (g2 goMulI (gV 2) (g2 goMod (g2 goAdd (gV 4) (g2 goMulI (gV 3) (gV 5))) (gC (.int 40))))) [5])) gNil))))
theorem h_l_forty {K : PySem.W.Frag} : ∀ ds M Q X, (fs_l_forty K) ds M Q X → ds.length = ([.v] : List AK).length → g_l_forty K { nx := fun _ M' => Q .non M', rt := Q } (entry 6 [.v] ds X) M := by
  rintro ds M Q X ⟨a, r, rfl, ms, rfl, q⟩ -
  wp_walk using g_l_forty
  refine take_of ms (by omega) (by omega) fun f f0 f1 => ?_
  wp_walk
  refine pick_of (K := K) ms rfl (by simp) (by simp) fun d hd => ?_
  obtain ⟨s, rfl, s0, s1⟩ : ∃ s, d = .int s ∧ 1 ≤ s ∧ s ≤ 24973 := by
    simp only [List.mem_cons, List.not_mem_nil, or_false] at hd
    rcases hd with rfl | rfl | rfl | rfl | rfl <;> exact ⟨_, rfl, by omega, by omega⟩
  wp_walk
  refine pick_of (K := K) ms rfl (by simp) (by simp) fun d hd => ?_
  obtain ⟨t, rfl, ht⟩ : ∃ t, d = .int t ∧ (t = 1 ∨ t = 3 ∨ t = 7 ∨ t = 9 ∨ t = 39 ∨ t = 11) := by
    simp only [List.mem_cons, List.not_mem_nil, or_false] at hd
    rcases hd with rfl | rfl | rfl | rfl | rfl | rfl <;> exact ⟨_, rfl, by omega⟩
  wp_walk
  refine take_of (K := K) ms (by omega) (by omega) fun b b0 b1 => ?_
  wp_walk
  refine lc_mp (xs := List.range 40) (enc := fun (i : Nat) => D.int (0 + i)) (f := fun k : Nat => .int (f + s * ((b + t * (k : Int)) % 40))) (fun k hk Q' q' => ?_) (size_of (by simp)) ?_
  · have hk := List.mem_range.mp hk
    wp_walk
    refine ⟨.inl ⟨by omega, by omega⟩, .inl ⟨by omega, by omega⟩, ?_⟩
    exact q'
  · have e : (List.range 40).map (fun k : Nat => D.int (f + s * ((b + t * (k : Int)) % 40))) = ((List.range 40).map fun k : Nat => f + s * ((b + t * (k : Int)) % 40)).map D.int := by rw [List.map_map]; rfl
    wp_walk
    rw [e]
    exact q _ ⟨_, rfl, forty_set f0 f1 s0 s1 ht b0, by simp⟩
def fs_l_set_2 (K : PySem.W.Frag) : FS := DrawF (fun r => r = []) fun r d => ∃ ns : List Int, d = .tup (ns.map .int) ∧ SetN ns
theorem mo_l_set_2 {K : PySem.W.Frag} : MonoF (fs_l_set_2 K) := drawF_mono
/-- _law_set -/
def lp1_l_set_2 (K : PySem.W.Frag) : GS := gSeq (gSet 4 (gCallM (fs_l_thing K) (gCons (gV 0) (gCons (gV 1) gNil)))) (gIfS (gB (g2 (goIn true) (gV 4) (gVw 2))) (gApp 2 (gV 4)) (gNext))
def af1_l_set_2 (K : PySem.W.Frag) : GS := gFrz 2 (gRet (gCa gcTupleS (gCons (gV 2) gNil)))
def af2_l_set_2 (K : PySem.W.Frag) : GS := gSeq (gSet 1 (gCallM (fs_l_take K) (gCons (gV 0) (gCons (gC (.int 5)) gNil)))) (gSeq (gOwn 2 (gFl (gNil))) (gSeq (gFor (giR1 (gCons (gCallM (fs_l_size K) (gCons (gV 0) (gCons (gC (.int 36)) gNil))) gNil)) (gtN 3) (lp1_l_set_2 K)) (af1_l_set_2 K)))
def g_l_set_2 (K : PySem.W.Frag) : GS := gSeq (gIfS (gB (g2 goEqA (gCallM (fs_l_take K) (gCons (gV 0) (gCons (gC (.int 4)) gNil))) (gC (.int 0)))) (gRet (gsSl true (gCallM (fs_l_forty K) (gCons (gV 0) gNil)) (gNoP) (gPart (g2 goSub (gC (.int 40)) (gCallM (fs_l_take K) (gCons (gV 0) (gCons (gC (.int 10)) gNil))))))) (gNext)) (af2_l_set_2 K)
theorem h_l_set_2 {K : PySem.W.Frag} : ∀ ds M Q X, (fs_l_set_2 K) ds M Q X → ds.length = ([.v] : List AK).length → g_l_set_2 K { nx := fun _ M' => Q .non M', rt := Q } (entry 5 [.v] ds X) M := by
  rintro ds M Q X ⟨a, r, rfl, ms, rfl, q⟩ -
  wp_walk using g_l_set_2
  refine take_of ms (by omega) (by omega) fun f f0 f1 => ?_
  wp_walk
  split
  · wp_walk
    refine ⟨a, [], rfl, ms, rfl, fun d ⟨ns, e, hs, hl⟩ => ?_⟩
    subst e
    wp_walk
    refine take_of (K := K) ms (by omega) (by omega) fun c c0 c1 => ?_
    wp_walk
    rw [cutS_take (by omega) (by rw [List.length_map]; omega)]
    rw [← List.map_take]
    exact q _ ⟨_, rfl, ⟨by rw [List.length_take]; omega, fun n hn => hs.rng n (List.mem_of_mem_take hn), hs.nd.sublist (List.take_sublist _ _)⟩⟩
  · wp_walk using af2_l_set_2
    refine take_of (K := K) ms (by omega) (by omega) fun k k0 k1 => ?_
    wp_walk
    refine size_dr (K := K) ms (by omega) (by omega) fun m m0 m1 => ?_
    obtain ⟨m, rfl⟩ := Int.eq_ofNat_of_zero_le m0
    wp_walk
    refine ⟨by omega, ?_⟩
    refine loop_mp (enc := fun (i : Nat) => D.int (0 + i)) (fun (is : List Nat) r M' => M' = M ∧ ∃ (ns : List Int) (x3 x4 : Sl), ns.length + is.length ≤ 36 ∧ (∀ n ∈ ns, 0 ≤ n ∧ n ≤ 999999) ∧ ns.Nodup ∧ r = ⟨[.v (.ref a), .v (.int k), .o (.lst (ns.map .int)), x3, x4], X⟩) ?_ ?_ (List.range m) _ _ ⟨rfl, [], .n, .n, by simp; omega, by simp, List.nodup_nil, rfl⟩
    · rintro r M' ⟨rfl, ns, x3, x4, hl, hr, hn, rfl⟩
      wp_walk using af1_l_set_2
      exact q _ ⟨ns, rfl, ⟨by simp at hl; omega, hr, hn⟩⟩
    · rintro i is r M' ⟨rfl, ns, x3, x4, hl, hr, hn, rfl⟩ N hN
      rw [List.length_cons] at hl
      wp_walk using lp1_l_set_2
      refine thing_dr (K := K) ms k0 fun z z0 z1 => ?_
      wp_walk using goIn_lstI
      by_cases h : z ∈ ns
      · wp_walk using h
        exact hN _ _ ⟨rfl, ns, _, _, by omega, hr, hn, rfl⟩
      · wp_walk using h
        refine ⟨size_lt (by omega), ?_⟩
        have e : ns.map D.int ++ [.int z] = (ns ++ [z]).map .int := by rw [List.map_append]; rfl
        rw [e]
        refine hN _ _ ⟨rfl, ns ++ [z], _, _, by simp; omega, fun n hn' => ?_, ?_, rfl⟩
        · rcases List.mem_append.mp hn' with h' | h'
          · exact hr n h'
          · rw [List.mem_singleton.mp h']; exact ⟨z0, z1⟩
        · rw [List.nodup_append]
          refine ⟨hn, by simp, fun x hx y hy e => ?_⟩
          rw [List.mem_singleton.mp hy] at e
          exact h (e ▸ hx)
def fs_l_near_3 (K : PySem.W.Frag) : FS := DrawF (fun r => ∃ ns : List Int, r = [.tup (ns.map .int)] ∧ SetN ns) fun r d => ∃ n : Int, d = .int n ∧ 0 ≤ n ∧ n ≤ 999999
theorem mo_l_near_3 {K : PySem.W.Frag} : MonoF (fs_l_near_3 K) := drawF_mono
/-- _law_near -/
def af1_l_near_3 (K : PySem.W.Frag) : GS := gRet (gCallM (fs_l_thing K) (gCons (gV 0) (gCons (gCallM (fs_l_take K) (gCons (gV 0) (gCons (gC (.int 5)) gNil))) gNil)))
def g_l_near_3 (K : PySem.W.Frag) : GS := gSeq (gSet 2 (gCallM (fs_l_take K) (gCons (gV 0) (gCons (gC (.int 8)) gNil)))) (gSeq (gIfS (gAnd (gB (g2 goLtA (gV 2) (gC (.int 6)))) (gB (g2 goNeA (gV 1) (gTup (gNil))))) (gRet (gCa gcMaxA (gCons (gC (.int 0)) (gCons (gCa gcMinA (gCons (gC (.int 999999)) (gCons (g2 goAdd (gCallM (fs_l_pick K) (gCons (gV 0) (gCons (gV 1) gNil))) (g2 goIx (gLst (gCons (gC (.int 0)) (gCons (gC (.int 0)) (gCons (gC (.int 0)) (gCons (gC (.int 0)) (gCons (gC (.int 1)) (gCons (g1 guNeg (gC (.int 1))) gNil))))))) (gV 2))) gNil))) gNil)))) (gNext)) (af1_l_near_3 K))
theorem h_l_near_3 {K : PySem.W.Frag} : ∀ ds M Q X, (fs_l_near_3 K) ds M Q X → ds.length = ([.v, .v] : List AK).length → g_l_near_3 K { nx := fun _ M' => Q .non M', rt := Q } (entry 3 [.v, .v] ds X) M := by
  rintro ds M Q X ⟨a, r, rfl, ms, ⟨ns, rfl, hs⟩, q⟩ -
  have fin : ∀ n : Int, 0 ≤ n → n ≤ 999999 → Q (.int n) M := fun n h1 h2 => q _ ⟨n, rfl, h1, h2⟩
  have hl := hs.len
  have rest : ∀ (w : Int) (X : Addr → Mem → Prop), af1_l_near_3 K { nx := fun _ M' => Q .non M', rt := Q } ⟨[.v (.ref a), .v (.tup (ns.map .int)), .v (.int w)], X⟩ M := fun w X => by
    wp_walk using af1_l_near_3
    refine take_of (K := K) ms (by omega) (by omega) fun k k0 k1 => ?_
    exact thing_dr (K := K) ms k0 fin
  have okn : D.ok (.tup (ns.map .int)) = true := (ok1_tup (ok1_ints ns)).ok
  have ok0 : D.ok (.tup []) = true := by decide +kernel
  wp_walk using g_l_near_3
  refine take_of ms (by omega) (by omega) fun w w0 w1 => ?_
  wp_walk using okn, ok0, eqv_tnil
  by_cases h6 : w < 6
  · rw [if_pos h6]
    cases ns with
    | nil =>
      wp_walk using List.map_nil, List.isEmpty_nil
      exact rest w X
    | cons n0 ns0 =>
      wp_walk using List.map_cons, List.isEmpty_cons
      refine pick_of (K := K) ms rfl (by simp) (by simp at hl ⊢; omega) fun d hd => ?_
      obtain ⟨n, hn, rfl⟩ := List.mem_map.mp (show d ∈ (n0 :: ns0).map D.int from hd)
      have hr := hs.rng n hn
      obtain ⟨b, eb⟩ : ∃ b : Int, atI [D.int 0, .int 0, .int 0, .int 0, .int 1, .int (-1)] w = some (.int b) := by
        have : w = 0 ∨ w = 1 ∨ w = 2 ∨ w = 3 ∨ w = 4 ∨ w = 5 := by omega
        rcases this with rfl | rfl | rfl | rfl | rfl | rfl <;> exact ⟨_, by rfl⟩
      wp_walk using eb
      refine fin _ ?_ ?_ <;> (repeat split) <;> omega
  · rw [if_neg h6]
    exact rest w X
theorem near_dr {M : Mem} {a : Addr} {ns : List Int} {Q : D → Mem → Prop} {X : Addr → Mem → Prop} (ms : M a = some .st) (hs : SetN ns) (h : ∀ n : Int, 0 ≤ n → n ≤ 999999 → Q (.int n) M) : fs_l_near_3 K [.ref a, .tup (ns.map .int)] M Q X :=
  ⟨a, _, rfl, ms, ⟨ns, rfl, hs⟩, fun d ⟨n, e, h1, h2⟩ => by subst e; exact h n h1 h2⟩
theorem set_dr {M : Mem} {a : Addr} {Q : D → Mem → Prop} {X : Addr → Mem → Prop} (ms : M a = some .st) (h : ∀ ns : List Int, SetN ns → Q (.tup (ns.map .int)) M) : fs_l_set_2 K [.ref a] M Q X :=
  ⟨a, _, rfl, ms, rfl, fun d ⟨ns, e, hs⟩ => by subst e; exact h ns hs⟩

end LW
namespace LW
open PySem PySem.Spec PySem.W PyProof.Rows L2 DL
local macro_rules | `(tactic| wp_walk) => `(tactic| simp only [gSeq, gSet, gRet, gRetN, gNext, gIfS, gDrop, gOwn, gApp, gExt, gForM, gLcM, gCnt, gTryV, gTryE, gxP, gxM, DL.Fr.mute, gIPut, gFrz, frz, gAsg, gPar, gPar3, gAug, gRaise, gRetM, gSetM, gMPut, gMGet, g1, g2, gC, gV, gVw, gB, gAnd, gOr, gNot, gNotV, gIf, DL.gCons, DL.gNil, DL.gTup, DL.gLst, gFl, gFd, gCa, gLenS, gPart, gNoP, gDisp, gPcons, gPnil, gtN, gtTup, gtCons, gtNil, gYes, gFor, gLc, giS, gCallP, gCallM, gScr, entry, aSls, aSl, DL.Fr.set, OM.d, wipeF, wipeS, keyD, List.length_cons, List.length_nil, List.cons_append, List.nil_append, List.append_nil, List.replicate_succ, List.replicate_zero, List.getElem?_cons_zero, List.getElem?_cons_succ, List.getElem?_nil, List.set_cons_zero, List.set_cons_succ, Nat.reduceAdd, Nat.reduceSub, if_true, if_false, ite_true, ite_false, reduceIte, Bool.false_eq_true, Bool.not_true, Bool.not_false, List.all_cons, List.all_nil, Bool.and_true, true_and, and_true, List.map_cons, List.map_nil, gIdx, ixT_ints, intsOf_map, Int.reduceToNat, Option.some.injEq, exists_eq_left', goAdd_int, goAdd_str, goAdd_tup, goAdd_lst, goAddW_int, goAddW_lst, goPlus_int, goI_int, guI_int, gcI1_int, goIx_lst, gcLen_lst, gcTupleS_lst, gcList_lst, goRevA_lst, goIx_tup, gcLen_tup, gcTupleS_tup, gcList_tup, goRevA_tup, gcTuple_lst, goIx_str, gcLen_str, gcInt_int, gcInt_bl, goMulT_tup, goMulL_lst, goIsB_bl, goIsN_non, isN_int, isN_bl, isN_str, isN_tup, isN_lst, isN_dic, isN_ref, isN_ty, isN_non, gTru_k, truK_non, truK_bl, truK_int, truK_lst, truK_tup, truK_str, gFlist_k, lstK_lst, lstK_tup, gsSl_k, slK_lst, slK_tup, slK_str, itsD_k, itsK_lst, itsK_tup, giZip_k, zipK_lst, zipK_tup, giR1_k, ran1K_nat, ran1K_int, giR2_k, ran2K_int, goLtA_int, goLtA_tup, ok_non, eqv_bl, goEq_int, goNe_int, goEq_bl, goNe_bl, gcMin_ints, gcMinT_ints, gcMax_ints, gcMaxT_ints, intsOf_mapf, blsOf_mapf, gcMin_f, gcMax_f, gcMin_2, gcMax_2, gcSum_ints, gcSum_f, gcBls_f, all_mapid, any_mapid, at_0, at_1, at_2, at_3, at_last, noOwn_nil, noOwn_1, noOwn_2, nof_n, nof_v, nof_b, nof_s, zipD_map, enumD_map, isi_non_int, isi_non_bool, isi_non_str, isi_non_tuple, isi_non_list, isi_non_dict, isi_bl_int, isi_bl_bool, isi_bl_str, isi_bl_tuple, isi_bl_list, isi_bl_dict, isi_int_int, isi_int_bool, isi_int_str, isi_int_tuple, isi_int_list, isi_int_dict, isi_str_int, isi_str_bool, isi_str_str, isi_str_tuple, isi_str_list, isi_str_dict, isi_tup_int, isi_tup_bool, isi_tup_str, isi_tup_tuple, isi_tup_list, isi_tup_dict, isi_lst_int, isi_lst_bool, isi_lst_str, isi_lst_tuple, isi_lst_list, isi_lst_dict, isi_dic_int, isi_dic_bool, isi_dic_str, isi_dic_tuple, isi_dic_list, isi_dic_dict, gcAll, gcAny, goMod, goFdiv, decide_eq_true_eq, Bool.not_eq_true', decide_eq_false_iff_not, ite_not, Bool.and_eq_true, not_false_eq_true, Bool.not_eq_true, List.map_append, Int.zero_add, List.any_cons, List.any_nil, Bool.true_and, Bool.or_false, Bool.xor_false, Bool.false_xor, Bool.true_xor, Bool.not_not, forall_const, Int.toNat_natCast, List.length_map, List.length_append, and_self, ne_eq, List.map_eq_nil_iff, not_true_eq_false, eq_self, goMulI, goSub, goPow, goLe, goGt, goGe, guNeg, gcAbs, goEq_str, goNe_str, goEq_tup, goNe_tup, goEq_lst, goNe_lst, goEq_non, goNe_non, gAndV_k, gOrV_k, gCh_k, blK_bl, ite_bf, reduceCtorEq, Int.reducePow, Int.reduceLT, Int.reduceLE, Int.reduceNeg, sz0, se0, sz1, se1, sz2, se2, sz3, se3, sz4, se4, sz5, se5, sz6, se6, sz7, se7, sz8, se8, sz9, se9, gFld, fldK_ref, gPutF, gPutFM, putFK_ref, gDrf, drfK_ref, gMApp, mlK_ref, gMPop, popK_int, gMIns, ins2K_2, insK_int, gMeth, mthK_ref, gMake, giR3, gFlR1, gFlR2, rg2K_int, gLenSet, lenSetK_lst, lenSetK_tup, gMinD, minDK_lst, giMem, giBA, gMIdx, goTab, gFsort, sortK_lst, sortK_tup])
local macro_rules | `(tactic| wp_walk using $ts,*) => `(tactic| simp only [$[$ts:term],*, gSeq, gSet, gRet, gRetN, gNext, gIfS, gDrop, gOwn, gApp, gExt, gForM, gLcM, gCnt, gTryV, gTryE, gxP, gxM, DL.Fr.mute, gIPut, gFrz, frz, gAsg, gPar, gPar3, gAug, gRaise, gRetM, gSetM, gMPut, gMGet, g1, g2, gC, gV, gVw, gB, gAnd, gOr, gNot, gNotV, gIf, DL.gCons, DL.gNil, DL.gTup, DL.gLst, gFl, gFd, gCa, gLenS, gPart, gNoP, gDisp, gPcons, gPnil, gtN, gtTup, gtCons, gtNil, gYes, gFor, gLc, giS, gCallP, gCallM, gScr, entry, aSls, aSl, DL.Fr.set, OM.d, wipeF, wipeS, keyD, List.length_cons, List.length_nil, List.cons_append, List.nil_append, List.append_nil, List.replicate_succ, List.replicate_zero, List.getElem?_cons_zero, List.getElem?_cons_succ, List.getElem?_nil, List.set_cons_zero, List.set_cons_succ, Nat.reduceAdd, Nat.reduceSub, if_true, if_false, ite_true, ite_false, reduceIte, Bool.false_eq_true, Bool.not_true, Bool.not_false, List.all_cons, List.all_nil, Bool.and_true, true_and, and_true, List.map_cons, List.map_nil, gIdx, ixT_ints, intsOf_map, Int.reduceToNat, Option.some.injEq, exists_eq_left', goAdd_int, goAdd_str, goAdd_tup, goAdd_lst, goAddW_int, goAddW_lst, goPlus_int, goI_int, guI_int, gcI1_int, goIx_lst, gcLen_lst, gcTupleS_lst, gcList_lst, goRevA_lst, goIx_tup, gcLen_tup, gcTupleS_tup, gcList_tup, goRevA_tup, gcTuple_lst, goIx_str, gcLen_str, gcInt_int, gcInt_bl, goMulT_tup, goMulL_lst, goIsB_bl, goIsN_non, isN_int, isN_bl, isN_str, isN_tup, isN_lst, isN_dic, isN_ref, isN_ty, isN_non, gTru_k, truK_non, truK_bl, truK_int, truK_lst, truK_tup, truK_str, gFlist_k, lstK_lst, lstK_tup, gsSl_k, slK_lst, slK_tup, slK_str, itsD_k, itsK_lst, itsK_tup, giZip_k, zipK_lst, zipK_tup, giR1_k, ran1K_nat, ran1K_int, giR2_k, ran2K_int, goLtA_int, goLtA_tup, ok_non, eqv_bl, goEq_int, goNe_int, goEq_bl, goNe_bl, gcMin_ints, gcMinT_ints, gcMax_ints, gcMaxT_ints, intsOf_mapf, blsOf_mapf, gcMin_f, gcMax_f, gcMin_2, gcMax_2, gcSum_ints, gcSum_f, gcBls_f, all_mapid, any_mapid, at_0, at_1, at_2, at_3, at_last, noOwn_nil, noOwn_1, noOwn_2, nof_n, nof_v, nof_b, nof_s, zipD_map, enumD_map, isi_non_int, isi_non_bool, isi_non_str, isi_non_tuple, isi_non_list, isi_non_dict, isi_bl_int, isi_bl_bool, isi_bl_str, isi_bl_tuple, isi_bl_list, isi_bl_dict, isi_int_int, isi_int_bool, isi_int_str, isi_int_tuple, isi_int_list, isi_int_dict, isi_str_int, isi_str_bool, isi_str_str, isi_str_tuple, isi_str_list, isi_str_dict, isi_tup_int, isi_tup_bool, isi_tup_str, isi_tup_tuple, isi_tup_list, isi_tup_dict, isi_lst_int, isi_lst_bool, isi_lst_str, isi_lst_tuple, isi_lst_list, isi_lst_dict, isi_dic_int, isi_dic_bool, isi_dic_str, isi_dic_tuple, isi_dic_list, isi_dic_dict, gcAll, gcAny, goMod, goFdiv, decide_eq_true_eq, Bool.not_eq_true', decide_eq_false_iff_not, ite_not, Bool.and_eq_true, not_false_eq_true, Bool.not_eq_true, List.map_append, Int.zero_add, List.any_cons, List.any_nil, Bool.true_and, Bool.or_false, Bool.xor_false, Bool.false_xor, Bool.true_xor, Bool.not_not, forall_const, Int.toNat_natCast, List.length_map, List.length_append, and_self, ne_eq, List.map_eq_nil_iff, not_true_eq_false, eq_self, goMulI, goSub, goPow, goLe, goGt, goGe, guNeg, gcAbs, goEq_str, goNe_str, goEq_tup, goNe_tup, goEq_lst, goNe_lst, goEq_non, goNe_non, gAndV_k, gOrV_k, gCh_k, blK_bl, ite_bf, reduceCtorEq, Int.reducePow, Int.reduceLT, Int.reduceLE, Int.reduceNeg, sz0, se0, sz1, se1, sz2, se2, sz3, se3, sz4, se4, sz5, se5, sz6, se6, sz7, se7, sz8, se8, sz9, se9, gFld, fldK_ref, gPutF, gPutFM, putFK_ref, gDrf, drfK_ref, gMApp, mlK_ref, gMPop, popK_int, gMIns, ins2K_2, insK_int, gMeth, mthK_ref, gMake, giR3, gFlR1, gFlR2, rg2K_int, gLenSet, lenSetK_lst, lenSetK_tup, gMinD, minDK_lst, giMem, giBA, gMIdx, goTab, gFsort, sortK_lst, sortK_tup])
variable {K : PySem.W.Frag}
/-! the five words, and what each does to a plain set -/
def below (ns : List Int) (x : Int) : List Int := ns.filter fun n => decide (n < x)
inductive W5 where
  | put | take | has | next | rank
def W5.s : W5 → PySem.Str
  | .put => "put"
  | .take => "take"
  | .has => "has"
  | .next => "next"
  | .rank => "rank"
def telS : W5 → List Int → Int → Int
  | .put, ns, x => if x ∈ ns then 0 else 1
  | .take, ns, x => if x ∈ ns then 1 else 0
  | .has, ns, x => if x ∈ ns then 1 else 0
  | .next, ns, x => leastFrom ns x
  | .rank, ns, x => ((below ns x).length : Nat)
def aftS : W5 → List Int → Int → List Int
  | .put, ns, x => if x ∈ ns then ns else ns ++ [x]
  | .take, ns, x => ns.filter fun n => !decide (n = x)
  | _, ns, _ => ns
theorem erase_filter : ∀ (ns : List Int) (x : Int), ns.Nodup → x ∈ ns → ns.eraseIdx (ns.idxOf x) = ns.filter fun n => !decide (n = x)
  | [], _, _, h => by cases h
  | y :: ns, x, hn, h => by
    obtain ⟨h1, h2⟩ := List.nodup_cons.mp hn
    rw [List.idxOf_cons, List.filter_cons]
    by_cases e : y = x
    · subst e
      rw [beq_self_eq_true, decide_eq_true rfl]
      show ns = ns.filter _
      exact (List.filter_eq_self.mpr fun z hz => by
        have : z ≠ y := fun e => h1 (e ▸ hz)
        rw [decide_eq_false this]; rfl).symm
    · rw [beq_eq_false_iff_ne.mpr e, decide_eq_false e]
      show y :: ns.eraseIdx (ns.idxOf x) = y :: ns.filter _
      rw [erase_filter ns x h2 ((List.mem_cons.mp h).resolve_left fun z => e z.symm)]
theorem filter_absent {ns : List Int} {x : Int} (h : x ∉ ns) : (ns.filter fun n => !decide (n = x)) = ns := List.filter_eq_self.mpr fun z hz => by
  have : z ≠ x := fun e => h (e ▸ hz)
  rw [decide_eq_false this]; rfl
theorem SetN.aft {ns : List Int} (hs : SetN ns) (w : W5) {x : Int} (x0 : 0 ≤ x) (x1 : x ≤ 999999) (hp : w = .put → ¬ (ns.length = 40 ∧ x ∉ ns)) : SetN (aftS w ns x) := by
  cases w with
  | put =>
    show SetN (if x ∈ ns then ns else ns ++ [x])
    by_cases h : x ∈ ns
    · rw [if_pos h]; exact hs
    · rw [if_neg h]
      have hl := hs.len
      have hne : ns.length ≠ 40 := fun e => hp rfl ⟨e, h⟩
      refine ⟨by simp; omega, fun n hn => ?_, ?_⟩
      · rcases List.mem_append.mp hn with h' | h'
        · exact hs.rng n h'
        · rw [List.mem_singleton.mp h']; exact ⟨x0, x1⟩
      · rw [List.nodup_append]
        refine ⟨hs.nd, by simp, fun y hy z hz e => ?_⟩
        rw [List.mem_singleton.mp hz] at e
        exact h (e ▸ hy)
  | take => exact ⟨Nat.le_trans (List.length_filter_le _ _) hs.len, fun n hn => hs.rng n (List.mem_filter.mp hn).1, hs.nd.sublist List.filter_sublist⟩
  | has => exact hs
  | next => exact hs
  | rank => exact hs
/-- the deed done to the plain set -/
def fs_l_plain (K : PySem.W.Frag) : FS := fun ds M Q _ => ∃ (ns : List Int) (w : W5) (x : Int), ds = [.tup (ns.map .int), .str w.s, .int x] ∧ ns.length ≤ 1000 ∧ Q (.tup [.int (telS w ns x), .tup ((aftS w ns x).map .int)]) M
theorem mo_l_plain {K : PySem.W.Frag} : MonoF (fs_l_plain K) := fun _ _ _ _ _ _ h _ ⟨ns, w, x, e, c, q⟩ => ⟨ns, w, x, e, c, h _ _ q⟩
/-- _law_plain -/
def af1_l_plain (K : PySem.W.Frag) : GS := gRet (gTup (gCons (gCa gcLen (gCons (gFd (gLc (itsD (fun ds => ds) (gV 0)) (gtN 3) (gB (g2 goLtA (gV 3) (gV 2))) (gV 3) [3])) gNil)) (gCons (gV 0) gNil)))
def af2_l_plain (K : PySem.W.Frag) : GS := gSeq (gIfS (gB (g2 goEqA (gV 1) (gC (.str "next")))) (gRet (gTup (gCons (gMinD (gFd (gLc (itsD (fun ds => ds) (gV 0)) (gtN 3) (gB (g2 goGe (gV 3) (gV 2))) (gV 3) [3])) (g1 guNeg (gC (.int 1)))) (gCons (gV 0) gNil)))) (gNext)) (af1_l_plain K)
def af3_l_plain (K : PySem.W.Frag) : GS := gSeq (gIfS (gB (g2 goEqA (gV 1) (gC (.str "has")))) (gRet (gTup (gCons (gCa gcInt (gCons (g2 (goIn false) (gV 2) (gV 0)) gNil)) (gCons (gV 0) gNil)))) (gNext)) (af2_l_plain K)
def af4_l_plain (K : PySem.W.Frag) : GS := gSeq (gIfS (gB (g2 goEqA (gV 1) (gC (.str "take")))) (gRet (gTup (gCons (gCa gcInt (gCons (g2 (goIn false) (gV 2) (gV 0)) gNil)) (gCons (gCa gcTupleS (gCons (gFd (gLc (itsD (fun ds => ds) (gV 0)) (gtN 3) (gB (g2 goNeA (gV 3) (gV 2))) (gV 3) [3])) gNil)) gNil)))) (gNext)) (af3_l_plain K)
def g_l_plain (K : PySem.W.Frag) : GS := gSeq (gIfS (gB (g2 goEqA (gV 1) (gC (.str "put")))) (gRet (gTup (gCons (gCa gcInt (gCons (g2 (goIn true) (gV 2) (gV 0)) gNil)) (gCons (g2 goAdd (gV 0) (gsSl true (gTup (gCons (gV 2) gNil)) (gNoP) (gPart (gCa gcInt (gCons (g2 (goIn true) (gV 2) (gV 0)) gNil))))) gNil)))) (gNext)) (af4_l_plain K)
theorem h_l_plain {K : PySem.W.Frag} : ∀ ds M Q X, (fs_l_plain K) ds M Q X → ds.length = ([.v, .v, .v] : List AK).length → g_l_plain K { nx := fun _ M' => Q .non M', rt := Q } (entry 4 [.v, .v, .v] ds X) M := by
  rintro ds M Q X ⟨ns, w, x, rfl, hl, q⟩ -
  cases w
  case put =>
    wp_walk using g_l_plain, W5.s
    have q' : Q (.tup [.int (if x ∈ ns then 0 else 1), .tup ((if x ∈ ns then ns else ns ++ [x]).map .int)]) M := q
    by_cases h : x ∈ ns
    · rw [if_pos h, if_pos h] at q'
      wp_walk using goIn_tupI, h
      have e0 : DL.cutD [D.int x] none (some 0) = [] := by rw [cutS_take (by omega) (by simp)]; rfl
      rw [e0, List.append_nil]
      exact ⟨size_of (by simp; omega), q'⟩
    · rw [if_neg h, if_neg h] at q'
      wp_walk using goIn_tupI, h
      have e1 : DL.cutD [D.int x] none (some 1) = [.int x] := by rw [cutS_take (by omega) (by simp)]; rfl
      rw [e1]
      rw [List.map_append] at q'
      exact ⟨size_of (by simp; omega), q'⟩
  case take =>
    wp_walk using g_l_plain, W5.s
    rw [if_neg (by decide)]
    have q' : Q (.tup [.int (if x ∈ ns then 1 else 0), .tup ((ns.filter fun n => !decide (n = x)).map .int)]) M := q
    wp_walk using af4_l_plain, goIn_tupI
    refine lc_fp (enc := D.int) (f := D.int) (p := fun n => !decide (n = x)) (fun n hn Q' P' y1 y2 => ?_) (size_of (by rw [List.length_nil]; omega)) ?_
    · wp_walk
      by_cases h : n = x
      · rw [if_pos h]
        exact y2 (by rw [decide_eq_true h]; rfl)
      · rw [if_neg h]
        exact y1 (by rw [decide_eq_false h]; rfl)
    · rw [List.nil_append]
      wp_walk
      exact q'
  case has =>
    wp_walk using g_l_plain, W5.s
    rw [if_neg (by decide)]
    wp_walk using af4_l_plain
    rw [if_neg (by decide)]
    have q' : Q (.tup [.int (if x ∈ ns then 1 else 0), .tup (ns.map .int)]) M := q
    wp_walk using af3_l_plain, goIn_tupI
    simpa using q'
  case next =>
    wp_walk using g_l_plain, W5.s
    rw [if_neg (by decide)]
    wp_walk using af4_l_plain
    rw [if_neg (by decide)]
    wp_walk using af3_l_plain
    rw [if_neg (by decide)]
    wp_walk using af2_l_plain
    refine lc_fp (enc := D.int) (f := D.int) (p := fun n => decide (x ≤ n)) (fun n hn Q' P' y1 y2 => ?_) (size_of (by rw [List.length_nil]; omega)) ?_
    · wp_walk
      by_cases h : x ≤ n
      · rw [if_pos h]
        exact y1 (decide_eq_true h)
      · rw [if_neg h]
        exact y2 (decide_eq_false h)
    · rw [List.nil_append]
      wp_walk
      exact q
  case rank =>
    wp_walk using g_l_plain, W5.s
    rw [if_neg (by decide)]
    wp_walk using af4_l_plain
    rw [if_neg (by decide)]
    wp_walk using af3_l_plain
    rw [if_neg (by decide)]
    wp_walk using af2_l_plain
    rw [if_neg (by decide)]
    wp_walk using af1_l_plain
    refine lc_fp (enc := D.int) (f := D.int) (p := fun n => decide (n < x)) (fun n hn Q' P' y1 y2 => ?_) (size_of (by rw [List.length_nil]; omega)) ?_
    · wp_walk
      by_cases h : n < x
      · rw [if_pos h]
        exact y1 (decide_eq_true h)
      · rw [if_neg h]
        exact y2 (decide_eq_false h)
    · wp_walk
      exact q
theorem least_bnd {ns : List Int} (hs : SetN ns) (x : Int) : -1 ≤ leastFrom ns x ∧ leastFrom ns x ≤ 999999 := by
  unfold leastFrom mnD
  split
  · omega
  · rename_i h
    have := hs.rng _ (List.mem_filter.mp (mn_mem h)).1
    omega
theorem below_len {ns : List Int} (hs : SetN ns) (x : Int) : (below ns x).length ≤ 40 := Nat.le_trans (List.length_filter_le _ _) hs.len
theorem telS_bnd {ns : List Int} (hs : SetN ns) (w : W5) (x : Int) : -1 ≤ telS w ns x ∧ telS w ns x ≤ 999999 := by
  have h1 := least_bnd hs x
  have h2 := below_len hs x
  cases w <;> unfold telS <;> dsimp only <;> (try split) <;> omega
theorem sh_set {ns : List Int} (hs : SetN ns) : Sh 1 2000 (.tup (ns.map .int)) := sh_tup (fun d hd => sh_ints (fun n hn => by have := hs.rng n hn; omega) hd) (by have := hs.len; rw [List.length_map]; omega)
theorem sh_pair {a b : Int} (ha : a.natAbs < 10 ^ 12) (hb : b.natAbs < 10 ^ 12) : Sh 1 2000 (.tup [.int a, .int b]) := sh_tup (k := 0) (w := 40) (fun d hd => by
  simp only [List.mem_cons, List.not_mem_nil, or_false] at hd
  rcases hd with rfl | rfl
  · exact sh_int ha
  · exact sh_int hb) (by show 2 * 41 ≤ 2000; decide)
theorem ints_inj {a b : List Int} (h : D.tup (a.map .int) = .tup (b.map .int)) : a = b := (List.map_inj_right (fun a b h => D.int.inj h)).mp (D.tup.inj h)
theorem da_int (x : Int) : (D.int x).da = true := rfl

end LW
namespace LW
open PySem PySem.Spec PySem.W PyProof.Rows L2 DL
local macro_rules | `(tactic| wp_walk) => `(tactic| simp only [gSeq, gSet, gRet, gRetN, gNext, gIfS, gDrop, gOwn, gApp, gExt, gForM, gLcM, gCnt, gTryV, gTryE, gxP, gxM, DL.Fr.mute, gIPut, gFrz, frz, gAsg, gPar, gPar3, gAug, gRaise, gRetM, gSetM, gMPut, gMGet, g1, g2, gC, gV, gVw, gB, gAnd, gOr, gNot, gNotV, gIf, DL.gCons, DL.gNil, DL.gTup, DL.gLst, gFl, gFd, gCa, gLenS, gPart, gNoP, gDisp, gPcons, gPnil, gtN, gtTup, gtCons, gtNil, gYes, gFor, gLc, giS, gCallP, gCallM, gScr, entry, aSls, aSl, DL.Fr.set, OM.d, wipeF, wipeS, keyD, List.length_cons, List.length_nil, List.cons_append, List.nil_append, List.append_nil, List.replicate_succ, List.replicate_zero, List.getElem?_cons_zero, List.getElem?_cons_succ, List.getElem?_nil, List.set_cons_zero, List.set_cons_succ, Nat.reduceAdd, Nat.reduceSub, if_true, if_false, ite_true, ite_false, reduceIte, Bool.false_eq_true, Bool.not_true, Bool.not_false, List.all_cons, List.all_nil, Bool.and_true, true_and, and_true, List.map_cons, List.map_nil, gIdx, ixT_ints, intsOf_map, Int.reduceToNat, Option.some.injEq, exists_eq_left', goAdd_int, goAdd_str, goAdd_tup, goAdd_lst, goAddW_int, goAddW_lst, goPlus_int, goI_int, guI_int, gcI1_int, goIx_lst, gcLen_lst, gcTupleS_lst, gcList_lst, goRevA_lst, goIx_tup, gcLen_tup, gcTupleS_tup, gcList_tup, goRevA_tup, gcTuple_lst, goIx_str, gcLen_str, gcInt_int, gcInt_bl, goMulT_tup, goMulL_lst, goIsB_bl, goIsN_non, isN_int, isN_bl, isN_str, isN_tup, isN_lst, isN_dic, isN_ref, isN_ty, isN_non, gTru_k, truK_non, truK_bl, truK_int, truK_lst, truK_tup, truK_str, gFlist_k, lstK_lst, lstK_tup, gsSl_k, slK_lst, slK_tup, slK_str, itsD_k, itsK_lst, itsK_tup, giZip_k, zipK_lst, zipK_tup, giR1_k, ran1K_nat, ran1K_int, giR2_k, ran2K_int, goLtA_int, goLtA_tup, ok_non, eqv_bl, goEq_int, goNe_int, goEq_bl, goNe_bl, gcMin_ints, gcMinT_ints, gcMax_ints, gcMaxT_ints, intsOf_mapf, blsOf_mapf, gcMin_f, gcMax_f, gcMin_2, gcMax_2, gcSum_ints, gcSum_f, gcBls_f, all_mapid, any_mapid, at_0, at_1, at_2, at_3, at_last, noOwn_nil, noOwn_1, noOwn_2, nof_n, nof_v, nof_b, nof_s, zipD_map, enumD_map, isi_non_int, isi_non_bool, isi_non_str, isi_non_tuple, isi_non_list, isi_non_dict, isi_bl_int, isi_bl_bool, isi_bl_str, isi_bl_tuple, isi_bl_list, isi_bl_dict, isi_int_int, isi_int_bool, isi_int_str, isi_int_tuple, isi_int_list, isi_int_dict, isi_str_int, isi_str_bool, isi_str_str, isi_str_tuple, isi_str_list, isi_str_dict, isi_tup_int, isi_tup_bool, isi_tup_str, isi_tup_tuple, isi_tup_list, isi_tup_dict, isi_lst_int, isi_lst_bool, isi_lst_str, isi_lst_tuple, isi_lst_list, isi_lst_dict, isi_dic_int, isi_dic_bool, isi_dic_str, isi_dic_tuple, isi_dic_list, isi_dic_dict, gcAll, gcAny, goMod, goFdiv, decide_eq_true_eq, Bool.not_eq_true', decide_eq_false_iff_not, ite_not, Bool.and_eq_true, not_false_eq_true, Bool.not_eq_true, List.map_append, Int.zero_add, List.any_cons, List.any_nil, Bool.true_and, Bool.or_false, Bool.xor_false, Bool.false_xor, Bool.true_xor, Bool.not_not, forall_const, Int.toNat_natCast, List.length_map, List.length_append, and_self, ne_eq, List.map_eq_nil_iff, not_true_eq_false, eq_self, goMulI, goSub, goPow, goLe, goGt, goGe, guNeg, gcAbs, goEq_str, goNe_str, goEq_tup, goNe_tup, goEq_lst, goNe_lst, goEq_non, goNe_non, gAndV_k, gOrV_k, gCh_k, blK_bl, ite_bf, reduceCtorEq, Int.reducePow, Int.reduceLT, Int.reduceLE, Int.reduceNeg, sz0, se0, sz1, se1, sz2, se2, sz3, se3, sz4, se4, sz5, se5, sz6, se6, sz7, se7, sz8, se8, sz9, se9, gFld, fldK_ref, gPutF, gPutFM, putFK_ref, gDrf, drfK_ref, gMApp, mlK_ref, gMPop, popK_int, gMIns, ins2K_2, insK_int, gMeth, mthK_ref, gMake, giR3, gFlR1, gFlR2, rg2K_int, gLenSet, lenSetK_lst, lenSetK_tup, gMinD, minDK_lst, giMem, giBA, gMIdx, goTab, gFsort, sortK_lst, sortK_tup])
local macro_rules | `(tactic| wp_walk using $ts,*) => `(tactic| simp only [$[$ts:term],*, gSeq, gSet, gRet, gRetN, gNext, gIfS, gDrop, gOwn, gApp, gExt, gForM, gLcM, gCnt, gTryV, gTryE, gxP, gxM, DL.Fr.mute, gIPut, gFrz, frz, gAsg, gPar, gPar3, gAug, gRaise, gRetM, gSetM, gMPut, gMGet, g1, g2, gC, gV, gVw, gB, gAnd, gOr, gNot, gNotV, gIf, DL.gCons, DL.gNil, DL.gTup, DL.gLst, gFl, gFd, gCa, gLenS, gPart, gNoP, gDisp, gPcons, gPnil, gtN, gtTup, gtCons, gtNil, gYes, gFor, gLc, giS, gCallP, gCallM, gScr, entry, aSls, aSl, DL.Fr.set, OM.d, wipeF, wipeS, keyD, List.length_cons, List.length_nil, List.cons_append, List.nil_append, List.append_nil, List.replicate_succ, List.replicate_zero, List.getElem?_cons_zero, List.getElem?_cons_succ, List.getElem?_nil, List.set_cons_zero, List.set_cons_succ, Nat.reduceAdd, Nat.reduceSub, if_true, if_false, ite_true, ite_false, reduceIte, Bool.false_eq_true, Bool.not_true, Bool.not_false, List.all_cons, List.all_nil, Bool.and_true, true_and, and_true, List.map_cons, List.map_nil, gIdx, ixT_ints, intsOf_map, Int.reduceToNat, Option.some.injEq, exists_eq_left', goAdd_int, goAdd_str, goAdd_tup, goAdd_lst, goAddW_int, goAddW_lst, goPlus_int, goI_int, guI_int, gcI1_int, goIx_lst, gcLen_lst, gcTupleS_lst, gcList_lst, goRevA_lst, goIx_tup, gcLen_tup, gcTupleS_tup, gcList_tup, goRevA_tup, gcTuple_lst, goIx_str, gcLen_str, gcInt_int, gcInt_bl, goMulT_tup, goMulL_lst, goIsB_bl, goIsN_non, isN_int, isN_bl, isN_str, isN_tup, isN_lst, isN_dic, isN_ref, isN_ty, isN_non, gTru_k, truK_non, truK_bl, truK_int, truK_lst, truK_tup, truK_str, gFlist_k, lstK_lst, lstK_tup, gsSl_k, slK_lst, slK_tup, slK_str, itsD_k, itsK_lst, itsK_tup, giZip_k, zipK_lst, zipK_tup, giR1_k, ran1K_nat, ran1K_int, giR2_k, ran2K_int, goLtA_int, goLtA_tup, ok_non, eqv_bl, goEq_int, goNe_int, goEq_bl, goNe_bl, gcMin_ints, gcMinT_ints, gcMax_ints, gcMaxT_ints, intsOf_mapf, blsOf_mapf, gcMin_f, gcMax_f, gcMin_2, gcMax_2, gcSum_ints, gcSum_f, gcBls_f, all_mapid, any_mapid, at_0, at_1, at_2, at_3, at_last, noOwn_nil, noOwn_1, noOwn_2, nof_n, nof_v, nof_b, nof_s, zipD_map, enumD_map, isi_non_int, isi_non_bool, isi_non_str, isi_non_tuple, isi_non_list, isi_non_dict, isi_bl_int, isi_bl_bool, isi_bl_str, isi_bl_tuple, isi_bl_list, isi_bl_dict, isi_int_int, isi_int_bool, isi_int_str, isi_int_tuple, isi_int_list, isi_int_dict, isi_str_int, isi_str_bool, isi_str_str, isi_str_tuple, isi_str_list, isi_str_dict, isi_tup_int, isi_tup_bool, isi_tup_str, isi_tup_tuple, isi_tup_list, isi_tup_dict, isi_lst_int, isi_lst_bool, isi_lst_str, isi_lst_tuple, isi_lst_list, isi_lst_dict, isi_dic_int, isi_dic_bool, isi_dic_str, isi_dic_tuple, isi_dic_list, isi_dic_dict, gcAll, gcAny, goMod, goFdiv, decide_eq_true_eq, Bool.not_eq_true', decide_eq_false_iff_not, ite_not, Bool.and_eq_true, not_false_eq_true, Bool.not_eq_true, List.map_append, Int.zero_add, List.any_cons, List.any_nil, Bool.true_and, Bool.or_false, Bool.xor_false, Bool.false_xor, Bool.true_xor, Bool.not_not, forall_const, Int.toNat_natCast, List.length_map, List.length_append, and_self, ne_eq, List.map_eq_nil_iff, not_true_eq_false, eq_self, goMulI, goSub, goPow, goLe, goGt, goGe, guNeg, gcAbs, goEq_str, goNe_str, goEq_tup, goNe_tup, goEq_lst, goNe_lst, goEq_non, goNe_non, gAndV_k, gOrV_k, gCh_k, blK_bl, ite_bf, reduceCtorEq, Int.reducePow, Int.reduceLT, Int.reduceLE, Int.reduceNeg, sz0, se0, sz1, se1, sz2, se2, sz3, se3, sz4, se4, sz5, se5, sz6, se6, sz7, se7, sz8, se8, sz9, se9, gFld, fldK_ref, gPutF, gPutFM, putFK_ref, gDrf, drfK_ref, gMApp, mlK_ref, gMPop, popK_int, gMIns, ins2K_2, insK_int, gMeth, mthK_ref, gMake, giR3, gFlR1, gFlR2, rg2K_int, gLenSet, lenSetK_lst, lenSetK_tup, gMinD, minDK_lst, giMem, giBA, gMIdx, goTab, gFsort, sortK_lst, sortK_tup])
variable {K : PySem.W.Frag}
/-! deeds, and what they do to plain sets, rows and maps -/
def kv_SET_WORDS (K : PySem.W.Frag) : List (PySem.Str × D) := [("put", .int 1), ("take", .int 1), ("has", .int 1), ("next", .int 1), ("rank", .int 1)]
def kv_ROW_WORDS (K : PySem.W.Frag) : List (PySem.Str × D) := [("at", .int 1), ("into", .int 2), ("out", .int 1), ("find", .int 1)]
def kv_MAP_WORDS (K : PySem.W.Frag) : List (PySem.Str × D) := [("set", .int 2), ("get", .int 1), ("drop", .int 1), ("next", .int 1)]
def kv_WORDS (K : PySem.W.Frag) : List (PySem.Str × D) := [("set", .ref (He.ga K "SET_WORDS")), ("row", .ref (He.ga K "ROW_WORDS")), ("map", .ref (He.ga K "MAP_WORDS"))]
def awords : So → List (PySem.Str × Int)
  | .set => [("put", 1), ("take", 1), ("has", 1), ("next", 1), ("rank", 1)]
  | .row => [("at", 1), ("into", 2), ("out", 1), ("find", 1)]
  | .map => [("set", 2), ("get", 1), ("drop", 1), ("next", 1)]
def arity (so : So) (z : PySem.Str) : Option Int := (awords so).lookup z
theorem len_two {α : Type} : ∀ {xs : List α}, xs.length = 2 → ∃ a b, xs = [a, b]
  | [a, b], _ => ⟨a, b, rfl⟩
theorem look_mem {z : PySem.Str} {n : Int} : ∀ {l : List (PySem.Str × Int)}, l.lookup z = some n → (z, n) ∈ l := by
  intro l
  induction l with
  | nil => intro h; cases h
  | cons q l ih =>
    obtain ⟨k, m⟩ := q
    intro h
    rw [List.lookup_cons] at h
    cases e : z == k with
    | true =>
      rw [e] at h
      cases h
      rw [eq_of_beq e]
      exact List.mem_cons_self ..
    | false =>
      rw [e] at h
      exact List.mem_cons_of_mem _ (ih h)
theorem arity_le {so : So} {z : PySem.Str} {n : Int} (h : arity so z = some n) : 1 ≤ n ∧ n ≤ 2 := by
  have h3 := look_mem (show (awords so).lookup z = some n from h)
  have h4 : ∀ q ∈ awords so, 1 ≤ q.2 ∧ q.2 ≤ 2 := by cases so <;> decide
  exact h4 _ h3
theorem lookup_map (z : PySem.Str) : ∀ l : List (PySem.Str × Int), (l.map fun q => (q.1, D.int q.2)).lookup z = (l.lookup z).map .int
  | [] => rfl
  | (k, n) :: l => by
    rw [List.map_cons, List.lookup_cons, List.lookup_cons]
    cases z == k with
    | true => rfl
    | false => exact lookup_map z l
/-- a deed of a shelf of a sort -/
def isDeedB (so : So) : D → Bool
  | .tup (.str z :: xs) => decide (arity so z = some ((xs.length : Nat) : Int)) && xs.all isThing
  | _ => false
theorem all_of {M : Mem} {Q : D → Mem → Prop} {xs : List D} {f : D → Bool} (q : Q (.bl (xs.all f)) M) : gcAll [.lst ([] ++ xs.map fun d => D.bl (f d))] M Q := by
  refine ⟨xs.map f, ?_, ?_⟩
  · rw [List.nil_append, show (xs.map fun d => D.bl (f d)) = (xs.map f).map D.bl by rw [List.map_map]; rfl]
    exact blsOf_map _
  · show Q (.bl ((xs.map f).all _root_.id)) M
    rw [show (xs.map f).all _root_.id = xs.all f by rw [List.all_map]; rfl]
    exact q
def fs_p_is_deed (K : PySem.W.Frag) : FS := fun ds M Q X => ∃ s d, ds = [s, d] ∧ s.da = true ∧ d.da = true ∧ (isSort s = false → X (He.ga K "NoSort") M) ∧ ∀ so : So, s = .str so.s → Q (.bl (isDeedB so d)) M
theorem mo_p_is_deed {K : PySem.W.Frag} : MonoF (fs_p_is_deed K) := fun _ _ _ _ _ _ h hx ⟨s, d, e, c, c2, q1, q2⟩ => ⟨s, d, e, c, c2, fun z => hx _ _ (q1 z), fun so z => h _ _ (q2 so z)⟩
theorem tab_words (so : So) {K : PySem.W.Frag} : ∃ x : PySem.Str, (kv_WORDS K).lookup so.s = some (.ref (He.ga K x)) ∧ (He.ga K x, (awords so).map fun q => (q.1, D.int q.2)) ∈ [(He.ga K "SET_WORDS", kv_SET_WORDS K), (He.ga K "ROW_WORDS", kv_ROW_WORDS K), (He.ga K "MAP_WORDS", kv_MAP_WORDS K)] := by
  cases so
  · exact ⟨"SET_WORDS", by rfl, List.mem_cons_self ..⟩
  · exact ⟨"ROW_WORDS", by rfl, List.mem_cons_of_mem _ (List.mem_cons_self ..)⟩
  · exact ⟨"MAP_WORDS", by rfl, List.mem_cons_of_mem _ (List.mem_cons_of_mem _ (List.mem_cons_self ..))⟩
/-- is_deed -/
def af1_p_is_deed (K : PySem.W.Frag) : GS := gRet (gCa gcAll (gCons (gFd (gLc (itsD (fun ds => ds) (gsSl true (gV 1) (gPart (gC (.int 1))) (gNoP))) (gtN 2) (gYes) (gCallP (fs_p_is_thing K) (gCons (gV 2) gNil)) [2])) gNil))
def af2_p_is_deed (K : PySem.W.Frag) : GS := gSeq (gIfS (gB (g2 goNeA (gTabGet [(He.ga K "SET_WORDS", kv_SET_WORDS K), (He.ga K "ROW_WORDS", kv_ROW_WORDS K), (He.ga K "MAP_WORDS", kv_MAP_WORDS K)] (gTabIx (kv_WORDS K) (gV 0)) (g2 goIx (gV 1) (gC (.int 0)))) (g2 goSub (gCa gcLen (gCons (gV 1) gNil)) (gC (.int 1))))) (gRet (gC (.bl false))) (gNext)) (af1_p_is_deed K)
def g_p_is_deed (K : PySem.W.Frag) : GS := gSeq (gDrop (gCallP (fs_p_need_sort K) (gCons (gV 0) gNil))) (gSeq (gIfS (gOr (gNot (gTru (gCa gcIsi (gCons (gV 1) (gCons (gC (.ty "tuple")) gNil))))) (gOr (gB (g2 goEqA (gCa gcLen (gCons (gV 1) gNil)) (gC (.int 0)))) (gNot (gTru (gCa gcIsi (gCons (g2 goIx (gV 1) (gC (.int 0))) (gCons (gC (.ty "str")) gNil))))))) (gRet (gC (.bl false))) (gNext)) (af2_p_is_deed K))
theorem h_p_is_deed {K : PySem.W.Frag} : ∀ ds M Q X, (fs_p_is_deed K) ds M Q X → ds.length = ([.v, .v] : List AK).length → g_p_is_deed K { nx := fun _ M' => Q .non M', rt := Q } (entry 3 [.v, .v] ds X) M := by
  rintro ds M Q X ⟨s, d, rfl, hs, hd, q1, q2⟩ -
  wp_walk using g_p_is_deed
  refine ⟨s, rfl, hs, fun hso => ?_, q1⟩
  obtain ⟨so, rfl⟩ := isSort_iff hso
  have q := q2 so rfl
  have fin : isDeedB so d = false → Q (.bl false) M := fun h => by rwa [h] at q
  wp_walk
  cases d
  case tup xs =>
    cases xs with
    | nil =>
      wp_walk
      exact fin rfl
    | cons x xs =>
      have hda := D.daL_mem (D.da_tup ▸ hd)
      have hx : x.da = true := hda x (List.mem_cons_self ..)
      have hxs : ∀ d ∈ xs, d.da = true := fun d h => hda d (List.mem_cons_of_mem _ h)
      wp_walk
      rw [if_neg (by omega)]
      cases x
      case str z =>
        obtain ⟨x, e1, e2⟩ := tab_words so (K := K)
        wp_walk using af2_p_is_deed, gTabGet, gTabIx, e1
        refine ⟨_, e2, rfl, ?_⟩
        rw [lookup_map, show (awords so).lookup z = arity so z from rfl]
        have rest : arity so z = some ((xs.length : Nat) : Int) → af1_p_is_deed K { nx := fun _ M' => Q .non M', rt := Q } ⟨[.v (.str so.s), .v (.tup (.str z :: xs)), .n], X⟩ M := fun e => by
          have ec : DL.cutD (D.str z :: xs) (some 1) none = xs := by rw [cutS_drop (by omega)]; rfl
          have ed : isDeedB so (.tup (.str z :: xs)) = xs.all isThing := by
            show (decide (arity so z = some ((xs.length : Nat) : Int)) && xs.all isThing) = _
            rw [decide_eq_true e]
            rfl
          rw [ed] at q
          wp_walk using af1_p_is_deed, ec
          refine lc_map (fun d => .bl (isThing d)) (fun d hd Q' q' => ?_) (size_of (by have := arity_le e; rw [List.length_nil]; omega)) ?_
          · wp_walk
            exact thing_of (K := K) (hxs d hd) q'
          · exact all_of q
        cases e : arity so z with
        | none =>
          have : isDeedB so (.tup (.str z :: xs)) = false := by
            show (decide (arity so z = some ((xs.length : Nat) : Int)) && xs.all isThing) = _
            rw [e]
            rfl
          wp_walk
          exact ⟨⟨rfl, rfl⟩, fin this⟩
        | some n =>
          rw [show (Option.map D.int (some n)).getD D.non = .int n from rfl]
          wp_walk
          by_cases hn : n = (xs.length : Nat)
          · rw [if_pos (by omega)]
            exact rest (by rw [e, hn])
          · rw [if_neg (by omega)]
            have : isDeedB so (.tup (.str z :: xs)) = false := by
              show (decide (arity so z = some ((xs.length : Nat) : Int)) && xs.all isThing) = _
              rw [e, decide_eq_false fun z => hn (Option.some.inj z)]
              rfl
            exact fin this
      all_goals first | (simp [D.da] at hx; done) | (wp_walk; exact fin rfl)
  all_goals first | (simp [D.da] at hd; done) | (wp_walk; exact fin rfl)

theorem set_deed {d : D} (h : isDeedB .set d = true) : ∃ (w : W5) (x : Int), d = .tup [.str w.s, .int x] ∧ 0 ≤ x ∧ x ≤ 999999 := by
  unfold isDeedB at h
  split at h
  · rename_i z xs
    rw [Bool.and_eq_true, decide_eq_true_eq] at h
    obtain ⟨h1, h2⟩ := h
    have key : ∀ (z : PySem.Str) (n : Int), arity .set z = some n → n = 1 ∧ ∃ w : W5, z = w.s := fun z n e => by
      have h3 : ∀ q ∈ awords .set, q.2 = 1 ∧ ∃ w : W5, q.1 = w.s := by
        intro q hq
        simp only [awords, List.mem_cons, List.not_mem_nil, or_false] at hq
        rcases hq with rfl | rfl | rfl | rfl | rfl
        · exact ⟨rfl, .put, rfl⟩
        · exact ⟨rfl, .take, rfl⟩
        · exact ⟨rfl, .has, rfl⟩
        · exact ⟨rfl, .next, rfl⟩
        · exact ⟨rfl, .rank, rfl⟩
      exact h3 (z, n) (look_mem e)
    obtain ⟨h3, w, rfl⟩ := key z _ h1
    have hl : xs.length = 1 := by omega
    obtain ⟨d, rfl⟩ := List.length_eq_one_iff.mp hl
    rw [List.all_cons, Bool.and_eq_true] at h2
    obtain ⟨x, rfl, hx⟩ := isThing_int h2.1
    exact ⟨w, x, rfl, hx⟩
  · cases h
/-- deeds of a row -/
inductive RD where
  | at_ (i : Int) | into (i x : Int) | out (i : Int) | find (x : Int)
def RD.w : RD → PySem.Str
  | .at_ _ => "at"
  | .into _ _ => "into"
  | .out _ => "out"
  | .find _ => "find"
def RD.ns : RD → List Int
  | .at_ i => [i]
  | .into i x => [i, x]
  | .out i => [i]
  | .find x => [x]
def RD.d (r : RD) : D := .tup (.str r.w :: r.ns.map .int)
def thingN (x : Int) : Prop := 0 ≤ x ∧ x ≤ 999999
def RD.ok (r : RD) : Prop := ∀ x ∈ r.ns, thingN x
/-- a plain row behind a deed, and what it tells -/
def telR : RD → List Int → Int
  | .at_ i, ns => ns.getD i.toNat (-1)
  | .into i _, ns => min i (ns.length : Nat)
  | .out i, ns => ns.getD i.toNat (-1)
  | .find x, ns => if x ∈ ns then (ns.idxOf x : Nat) else -1
def aftR : RD → List Int → List Int
  | .into i x, ns => ns.take i.toNat ++ x :: ns.drop i.toNat
  | .out i, ns => ns.eraseIdx i.toNat
  | _, ns => ns
theorem row_deed {d : D} (h : isDeedB .row d = true) : ∃ r : RD, d = r.d ∧ r.ok := by
  unfold isDeedB at h
  split at h
  · rename_i z xs
    rw [Bool.and_eq_true, decide_eq_true_eq] at h
    obtain ⟨h1, h2⟩ := h
    have h4 := look_mem h1
    simp only [awords, List.mem_cons, List.not_mem_nil, or_false, Prod.mk.injEq] at h4
    rcases h4 with ⟨rfl, h3⟩ | ⟨rfl, h3⟩ | ⟨rfl, h3⟩ | ⟨rfl, h3⟩
    · obtain ⟨d, rfl⟩ := List.length_eq_one_iff.mp (show xs.length = 1 by omega)
      rw [List.all_cons, Bool.and_eq_true] at h2
      obtain ⟨x, rfl, hx⟩ := isThing_int h2.1
      exact ⟨.at_ x, rfl, fun y hy => by rw [List.mem_singleton.mp hy]; exact hx⟩
    · obtain ⟨d, e, rfl⟩ := len_two (show xs.length = 2 by omega)
      rw [List.all_cons, List.all_cons, Bool.and_eq_true, Bool.and_eq_true] at h2
      obtain ⟨x, rfl, hx⟩ := isThing_int h2.1
      obtain ⟨y, rfl, hy⟩ := isThing_int h2.2.1
      refine ⟨.into x y, rfl, fun z hz => ?_⟩
      rcases List.mem_cons.mp hz with rfl | hz
      · exact hx
      · rw [List.mem_singleton.mp hz]; exact hy
    · obtain ⟨d, rfl⟩ := List.length_eq_one_iff.mp (show xs.length = 1 by omega)
      rw [List.all_cons, Bool.and_eq_true] at h2
      obtain ⟨x, rfl, hx⟩ := isThing_int h2.1
      exact ⟨.out x, rfl, fun y hy => by rw [List.mem_singleton.mp hy]; exact hx⟩
    · obtain ⟨d, rfl⟩ := List.length_eq_one_iff.mp (show xs.length = 1 by omega)
      rw [List.all_cons, Bool.and_eq_true] at h2
      obtain ⟨x, rfl, hx⟩ := isThing_int h2.1
      exact ⟨.find x, rfl, fun y hy => by rw [List.mem_singleton.mp hy]; exact hx⟩
  · cases h
/-- deeds of a map -/
inductive MD where
  | set (k v : Int) | get (k : Int) | drop (k : Int) | next (k : Int)
def MD.w : MD → PySem.Str
  | .set _ _ => "set"
  | .get _ => "get"
  | .drop _ => "drop"
  | .next _ => "next"
def MD.k : MD → Int
  | .set k _ => k
  | .get k => k
  | .drop k => k
  | .next k => k
def MD.ns : MD → List Int
  | .set k v => [k, v]
  | .get k => [k]
  | .drop k => [k]
  | .next k => [k]
def MD.d (r : MD) : D := .tup (.str r.w :: r.ns.map .int)
def MD.ok (r : MD) : Prop := ∀ x ∈ r.ns, thingN x
def valM (ps : List (Int × Int)) (k : Int) : Int := ((ps.find? fun p => decide (p.1 = k)).map (·.2)).getD (-1)
def telM : MD → List (Int × Int) → Int
  | .next k, ps => leastFrom (ps.map (·.1)) k
  | m, ps => valM ps m.k
def putM (ps : List (Int × Int)) (k v : Int) : List (Int × Int) := if k ∈ ps.map (·.1) then ps.map fun p => if p.1 = k then (k, v) else p else ps ++ [(k, v)]
def aftM : MD → List (Int × Int) → List (Int × Int)
  | .set k v, ps => putM ps k v
  | .drop k, ps => ps.filter fun p => !decide (p.1 = k)
  | _, ps => ps
theorem map_deed {d : D} (h : isDeedB .map d = true) : ∃ r : MD, d = r.d ∧ r.ok := by
  unfold isDeedB at h
  split at h
  · rename_i z xs
    rw [Bool.and_eq_true, decide_eq_true_eq] at h
    obtain ⟨h1, h2⟩ := h
    have h4 := look_mem h1
    simp only [awords, List.mem_cons, List.not_mem_nil, or_false, Prod.mk.injEq] at h4
    rcases h4 with ⟨rfl, h3⟩ | ⟨rfl, h3⟩ | ⟨rfl, h3⟩ | ⟨rfl, h3⟩
    · obtain ⟨d, e, rfl⟩ := len_two (show xs.length = 2 by omega)
      rw [List.all_cons, List.all_cons, Bool.and_eq_true, Bool.and_eq_true] at h2
      obtain ⟨x, rfl, hx⟩ := isThing_int h2.1
      obtain ⟨y, rfl, hy⟩ := isThing_int h2.2.1
      refine ⟨.set x y, rfl, fun z hz => ?_⟩
      rcases List.mem_cons.mp hz with rfl | hz
      · exact hx
      · rw [List.mem_singleton.mp hz]; exact hy
    · obtain ⟨d, rfl⟩ := List.length_eq_one_iff.mp (show xs.length = 1 by omega)
      rw [List.all_cons, Bool.and_eq_true] at h2
      obtain ⟨x, rfl, hx⟩ := isThing_int h2.1
      exact ⟨.get x, rfl, fun y hy => by rw [List.mem_singleton.mp hy]; exact hx⟩
    · obtain ⟨d, rfl⟩ := List.length_eq_one_iff.mp (show xs.length = 1 by omega)
      rw [List.all_cons, Bool.and_eq_true] at h2
      obtain ⟨x, rfl, hx⟩ := isThing_int h2.1
      exact ⟨.drop x, rfl, fun y hy => by rw [List.mem_singleton.mp hy]; exact hx⟩
    · obtain ⟨d, rfl⟩ := List.length_eq_one_iff.mp (show xs.length = 1 by omega)
      rw [List.all_cons, Bool.and_eq_true] at h2
      obtain ⟨x, rfl, hx⟩ := isThing_int h2.1
      exact ⟨.next x, rfl, fun y hy => by rw [List.mem_singleton.mp hy]; exact hx⟩
  · cases h

theorem goIn_strs {neg : Bool} {z : PySem.Str} {zs : List PySem.Str} {M : Mem} {Q : D → Mem → Prop} : goIn neg (.str z) (.tup (zs.map .str)) M Q = Q (.bl (xor neg (decide (z ∈ zs)))) M := by
  show (((D.str z).flat = true ∧ (zs.map D.str).all D.flat = true) ∧ Q (.bl (xor neg ((zs.map D.str).any fun y => y.eqv (.str z)))) M) = _
  have e : (zs.map D.str).all D.flat = true := List.all_eq_true.mpr fun d hd => by
    obtain ⟨n, hn, rfl⟩ := List.mem_map.mp hd
    rfl
  have e2 : ((zs.map D.str).any fun y => y.eqv (.str z)) = decide (z ∈ zs) := by
    rw [Bool.eq_iff_iff, decide_eq_true_eq, List.any_eq_true]
    constructor
    · rintro ⟨d, hd, e⟩
      obtain ⟨n, hn, rfl⟩ := List.mem_map.mp hd
      rw [eqv_str] at e
      rw [← of_decide_eq_true e]
      exact hn
    · exact fun h => ⟨_, List.mem_map.mpr ⟨z, h, rfl⟩, by rw [eqv_str, decide_eq_true rfl]⟩
  rw [e, e2]
  exact propext ⟨fun h => h.2, fun h => ⟨⟨rfl, rfl⟩, h⟩⟩
/-- a set behind a deed -/
def fs_p_done_on_set (K : PySem.W.Frag) : FS := fun ds M Q X => ∃ (ns : List Int) (w : W5) (x : Int), ds = [.tup (ns.map .int), .str w.s, .int x] ∧ ns.length ≤ 40 ∧ (w = .put ∧ x ∉ ns ∧ ns.length = 40 → X (He.ga K "TooMany") M) ∧ (¬ (w = .put ∧ x ∉ ns ∧ ns.length = 40) → Q (.tup [.tup ((aftS w ns x).map .int), .int (telS w ns x)]) M)
theorem mo_p_done_on_set {K : PySem.W.Frag} : MonoF (fs_p_done_on_set K) := fun _ _ _ _ _ _ h hx ⟨ns, w, x, e, c, q1, q2⟩ => ⟨ns, w, x, e, c, fun z => hx _ _ (q1 z), fun z => h _ _ (q2 z)⟩
/-- done_on_set -/
def af1_p_done_on_set (K : PySem.W.Frag) : GS := gRet (gTup (gCons (gV 0) (gCons (gCa gcInt (gCons (gV 3) gNil)) gNil)))
def af2_p_done_on_set (K : PySem.W.Frag) : GS := gSeq (gIfS (gB (g2 goEqA (gV 1) (gC (.str "take")))) (gSet 0 (gCa gcTupleS (gCons (gFd (gLc (itsD (fun ds => ds) (gV 0)) (gtN 4) (gB (g2 goNeA (gV 4) (gV 2))) (gV 4) [4])) gNil))) (gNext)) (af1_p_done_on_set K)
def af3_p_done_on_set (K : PySem.W.Frag) : GS := gSeq (gIfS (gB (g2 goEqA (gV 1) (gC (.str "put")))) (gRet (gTup (gCons (gV 0) (gCons (gC (.int 0)) gNil)))) (gNext)) (af2_p_done_on_set K)
def af4_p_done_on_set (K : PySem.W.Frag) : GS := gSeq (gSet 3 (g2 (goIn false) (gV 2) (gV 0))) (gSeq (gIfS (gAnd (gB (g2 goEqA (gV 1) (gC (.str "put")))) (gNot (gTru (gV 3)))) (gSeq (gDrop (gCallP (fs_p_need_place K) (gCons (gV 0) gNil))) (gRet (gTup (gCons (g2 goAdd (gV 0) (gTup (gCons (gV 2) gNil))) (gCons (gC (.int 1)) gNil))))) (gNext)) (af3_p_done_on_set K))
def af5_p_done_on_set (K : PySem.W.Frag) : GS := gSeq (gIfS (gB (g2 goEqA (gV 1) (gC (.str "rank")))) (gRet (gTup (gCons (gV 0) (gCons (gCa gcLen (gCons (gFd (gLc (itsD (fun ds => ds) (gV 0)) (gtN 4) (gB (g2 goLtA (gV 4) (gV 2))) (gV 4) [4])) gNil)) gNil)))) (gNext)) (af4_p_done_on_set K)
def g_p_done_on_set (K : PySem.W.Frag) : GS := gSeq (gIfS (gB (g2 goEqA (gV 1) (gC (.str "next")))) (gRet (gTup (gCons (gV 0) (gCons (gCallP (fs_p_least_from K) (gCons (gV 0) (gCons (gV 2) gNil))) gNil)))) (gNext)) (af5_p_done_on_set K)
theorem h_p_done_on_set {K : PySem.W.Frag} : ∀ ds M Q X, (fs_p_done_on_set K) ds M Q X → ds.length = ([.v, .v, .v] : List AK).length → g_p_done_on_set K { nx := fun _ M' => Q .non M', rt := Q } (entry 5 [.v, .v, .v] ds X) M := by
  rintro ds M Q X ⟨ns, w, x, rfl, hl, q1, q2⟩ -
  cases w
  case put =>
    wp_walk using g_p_done_on_set, W5.s
    rw [if_neg (by decide)]
    wp_walk using af5_p_done_on_set
    rw [if_neg (by decide)]
    wp_walk using af4_p_done_on_set, goIn_tupI
    by_cases h : x ∈ ns
    · have q := q2 fun z => z.2.1 h
      rw [show aftS .put ns x = ns from if_pos h, show telS .put ns x = 0 from if_pos h] at q
      wp_walk using h, af3_p_done_on_set
      exact q
    · wp_walk using h
      refine ⟨.tup (ns.map .int), ns.map .int, rfl, rfl, fun z => ?_, fun z => q1 ⟨rfl, h, by simpa using z⟩⟩
      have q := q2 fun y => z (by simpa using y.2.2)
      rw [show aftS .put ns x = ns ++ [x] from if_neg h, show telS .put ns x = 1 from if_neg h, List.map_append] at q
      wp_walk
      exact ⟨size_of (by simp; omega), q⟩
  case take =>
    have q := q2 fun z => by cases z.1
    wp_walk using g_p_done_on_set, W5.s
    rw [if_neg (by decide)]
    wp_walk using af5_p_done_on_set
    rw [if_neg (by decide)]
    wp_walk using af4_p_done_on_set, goIn_tupI
    rw [if_neg (by decide)]
    wp_walk using af3_p_done_on_set
    rw [if_neg (by decide)]
    wp_walk using af2_p_done_on_set
    refine lc_fp (enc := D.int) (f := D.int) (p := fun n => !decide (n = x)) (fun n hn Q' P' y1 y2 => ?_) (size_of (by rw [List.length_nil]; omega)) ?_
    · wp_walk
      by_cases h : n = x
      · rw [if_pos h]
        exact y2 (by rw [decide_eq_true h]; rfl)
      · rw [if_neg h]
        exact y1 (by rw [decide_eq_false h]; rfl)
    · rw [List.nil_append]
      wp_walk using af1_p_done_on_set
      have q' : Q (.tup [.tup ((ns.filter fun n => !decide (n = x)).map .int), .int (if x ∈ ns then 1 else 0)]) M := q
      simpa using q'
  case has =>
    have q := q2 fun z => by cases z.1
    wp_walk using g_p_done_on_set, W5.s
    rw [if_neg (by decide)]
    wp_walk using af5_p_done_on_set
    rw [if_neg (by decide)]
    wp_walk using af4_p_done_on_set, goIn_tupI
    rw [if_neg (by decide)]
    wp_walk using af3_p_done_on_set
    rw [if_neg (by decide)]
    wp_walk using af2_p_done_on_set
    rw [if_neg (by decide)]
    wp_walk using af1_p_done_on_set
    have q' : Q (.tup [.tup (ns.map .int), .int (if x ∈ ns then 1 else 0)]) M := q
    simpa using q'
  case next =>
    have q := q2 fun z => by cases z.1
    wp_walk using g_p_done_on_set, W5.s
    refine ⟨.tup (ns.map .int), ns, x, rfl, rfl, by omega, ?_⟩
    wp_walk
    exact q
  case rank =>
    have q := q2 fun z => by cases z.1
    wp_walk using g_p_done_on_set, W5.s
    rw [if_neg (by decide)]
    wp_walk using af5_p_done_on_set
    refine lc_fp (enc := D.int) (f := D.int) (p := fun n => decide (n < x)) (fun n hn Q' P' y1 y2 => ?_) (size_of (by rw [List.length_nil]; omega)) ?_
    · wp_walk
      by_cases h : n < x
      · rw [if_pos h]
        exact y1 (decide_eq_true h)
      · rw [if_neg h]
        exact y2 (decide_eq_false h)
    · wp_walk
      exact q
/-- whether a deed brings one more onto a full row -/
def RD.more : RD → List Int → Prop
  | .into _ _, ns => ns.length = 40
  | _, _ => False
def fs_p_done_on_row (K : PySem.W.Frag) : FS := fun ds M Q X => ∃ (ns : List Int) (r : RD), ds = [.tup (ns.map .int), .str r.w, .tup (r.ns.map .int)] ∧ ns.length ≤ 40 ∧ (∀ x ∈ r.ns, 0 ≤ x) ∧ (r.more ns → X (He.ga K "TooMany") M) ∧ (¬ r.more ns → Q (.tup [.tup ((aftR r ns).map .int), .int (telR r ns)]) M)
theorem mo_p_done_on_row {K : PySem.W.Frag} : MonoF (fs_p_done_on_row K) := fun _ _ _ _ _ _ h hx ⟨ns, w, e, c, c2, q1, q2⟩ => ⟨ns, w, e, c, c2, fun z => hx _ _ (q1 z), fun z => h _ _ (q2 z)⟩
theorem atI_intsD {ns : List Int} {i : Int} (h0 : 0 ≤ i) (h1 : i < (ns.length : Nat)) : atI (ns.map D.int) i = some (.int (ns.getD i.toNat (-1))) := by
  refine atI_nat h0 ?_
  have h2 : i.toNat < ns.length := by omega
  rw [List.getElem?_map, List.getD_eq_getElem?_getD, List.getElem?_eq_getElem h2]
  rfl
theorem getD_far {ns : List Int} {i : Int} (h1 : ¬ i < (ns.length : Nat)) : ns.getD i.toNat (-1) = -1 := by
  rw [List.getD_eq_getElem?_getD, List.getElem?_eq_none (by omega)]
  rfl
theorem ixT_intsL {ns : List Int} {i : Int} {k : Nat → Prop} : ixT (ns.map .int) (.int i) k = (i ∈ ns ∧ k (ns.idxOf i)) := ixT_ints
/-- done_on_row -/
def af1_p_done_on_row (K : PySem.W.Frag) : GS := gRet (gTup (gCons (gV 0) (gCons (gV 5) gNil)))
def af2_p_done_on_row (K : PySem.W.Frag) : GS := gSeq (gSet 5 (gIf (gB (g2 goLtA (gV 3) (gCa gcLen (gCons (gV 0) gNil)))) (g2 goIx (gV 0) (gV 3)) (g1 guNeg (gC (.int 1))))) (gSeq (gIfS (gB (g2 goEqA (gV 1) (gC (.str "out")))) (gSet 0 (g2 goAdd (gsSl true (gV 0) (gNoP) (gPart (gV 3))) (gsSl true (gV 0) (gPart (g2 goAdd (gV 3) (gC (.int 1)))) (gNoP)))) (gNext)) (af1_p_done_on_row K))
def af3_p_done_on_row (K : PySem.W.Frag) : GS := gSeq (gIfS (gB (g2 goEqA (gV 1) (gC (.str "into")))) (gSeq (gDrop (gCallP (fs_p_need_place K) (gCons (gV 0) gNil))) (gSeq (gSet 4 (gCa gcMinA (gCons (gV 3) (gCons (gCa gcLen (gCons (gV 0) gNil)) gNil)))) (gRet (gTup (gCons (g2 goAdd (g2 goAdd (gsSl true (gV 0) (gNoP) (gPart (gV 4))) (gTup (gCons (g2 goIx (gV 2) (gC (.int 1))) gNil))) (gsSl true (gV 0) (gPart (gV 4)) (gNoP))) (gCons (gV 4) gNil)))))) (gNext)) (af2_p_done_on_row K)
def g_p_done_on_row (K : PySem.W.Frag) : GS := gSeq (gSet 3 (g2 goIx (gV 2) (gC (.int 0)))) (gSeq (gIfS (gB (g2 goEqA (gV 1) (gC (.str "find")))) (gRet (gTup (gCons (gV 0) (gCons (gIf (gB (g2 (goIn false) (gV 3) (gV 0))) (gIdx (gV 0) (gV 3)) (g1 guNeg (gC (.int 1)))) gNil)))) (gNext)) (af3_p_done_on_row K))
theorem h_p_done_on_row {K : PySem.W.Frag} : ∀ ds M Q X, (fs_p_done_on_row K) ds M Q X → ds.length = ([.v, .v, .v] : List AK).length → g_p_done_on_row K { nx := fun _ M' => Q .non M', rt := Q } (entry 6 [.v, .v, .v] ds X) M := by
  rintro ds M Q X ⟨ns, r, rfl, hl, h0, q1, q2⟩ -
  cases r
  case find x =>
    have q := q2 fun z => z
    wp_walk using g_p_done_on_row, RD.w, RD.ns, goIn_tupI
    simp only [aftR, telR] at q
    by_cases h : x ∈ ns
    · rw [if_pos h] at q
      wp_walk using h
      exact q
    · rw [if_neg h] at q
      wp_walk using h
      exact q
  case into i x =>
    have i0 : 0 ≤ i := h0 i (List.mem_cons_self ..)
    wp_walk using g_p_done_on_row, RD.w, RD.ns
    rw [if_neg (by decide)]
    wp_walk using af3_p_done_on_row
    refine ⟨.tup (ns.map .int), ns.map .int, rfl, rfl, fun z => ?_, fun z => q1 (show ns.length = 40 by simpa using z)⟩
    have q := q2 fun y => z (show (ns.map D.int).length = 40 by rw [List.length_map]; exact y)
    simp only [aftR, telR] at q
    wp_walk
    have hm : min i ((ns.length : Nat) : Int) ≤ (ns.length : Nat) := by omega
    have hm0 : 0 ≤ min i ((ns.length : Nat) : Int) := by omega
    have e1 : ns.take (min i ((ns.length : Nat) : Int)).toNat = ns.take i.toNat := by
      by_cases h : i ≤ (ns.length : Nat)
      · rw [show min i ((ns.length : Nat) : Int) = i by omega]
      · rw [List.take_of_length_le (by omega), List.take_of_length_le (by omega)]
    have e2 : ns.drop (min i ((ns.length : Nat) : Int)).toNat = ns.drop i.toNat := by
      by_cases h : i ≤ (ns.length : Nat)
      · rw [show min i ((ns.length : Nat) : Int) = i by omega]
      · rw [List.drop_eq_nil_of_le (by omega), List.drop_eq_nil_of_le (by omega)]
    rw [cutS_take hm0 (by rw [List.length_map]; omega), cutS_drop hm0, ← List.map_take, ← List.map_drop, e1, e2]
    have hz1 : ((ns.take i.toNat).map D.int).length ≤ 40 := by rw [List.length_map, List.length_take]; omega
    have hz2 : ((ns.drop i.toNat).map D.int).length ≤ 40 := by rw [List.length_map, List.length_drop]; omega
    refine ⟨size_of (by simp; omega), size_of (by simp; omega), ?_⟩
    rw [List.map_append, List.map_cons] at q
    rw [List.append_assoc]
    exact q
  case at_ i =>
    have i0 : 0 ≤ i := h0 i (List.mem_cons_self ..)
    have q := q2 fun z => z
    simp only [aftR, telR] at q
    wp_walk using g_p_done_on_row, RD.w, RD.ns
    rw [if_neg (by decide)]
    wp_walk using af3_p_done_on_row
    rw [if_neg (by decide)]
    by_cases h : i < (ns.length : Nat)
    · have ei := atI_intsD i0 h
      wp_walk using af2_p_done_on_row, h, ei
      rw [if_neg (by decide)]
      wp_walk using af1_p_done_on_row
      exact q
    · rw [getD_far h] at q
      wp_walk using af2_p_done_on_row, h
      rw [if_neg (by decide)]
      wp_walk using af1_p_done_on_row
      exact q
  case out i =>
    have i0 : 0 ≤ i := h0 i (List.mem_cons_self ..)
    have q := q2 fun z => z
    simp only [aftR, telR] at q
    wp_walk using g_p_done_on_row, RD.w, RD.ns
    rw [if_neg (by decide)]
    wp_walk using af3_p_done_on_row
    rw [if_neg (by decide)]
    have e1 : DL.cutD (ns.map D.int) none (some i) = (ns.take i.toNat).map D.int := by
      by_cases h : i ≤ (ns.length : Nat)
      · rw [cutS_take i0 (by rw [List.length_map]; omega), ← List.map_take]
      · unfold DL.cutD
        have e : HT.sIx (ns.map D.int).length (ns.map D.int).length (some i) = (ns.map D.int).length := by
          have := HT.sIx_nat (ns.map D.int).length (ns.map D.int).length i.toNat
          rw [Int.toNat_of_nonneg i0] at this
          rw [this, List.length_map]
          omega
        rw [e, HT.sIx_none, List.drop_zero, Nat.sub_zero, List.take_length, List.take_of_length_le (by omega)]
    have e2 : DL.cutD (ns.map D.int) (some (i + 1)) none = (ns.drop (i.toNat + 1)).map D.int := by
      rw [cutS_drop (by omega), ← List.map_drop, show (i + 1).toNat = i.toNat + 1 by omega]
    have e3 : (ns.take i.toNat).map D.int ++ (ns.drop (i.toNat + 1)).map D.int = (ns.eraseIdx i.toNat).map D.int := by
      rw [← List.map_append, List.eraseIdx_eq_take_drop_succ]
    have hz : ((ns.take i.toNat).map D.int).length + ((ns.drop (i.toNat + 1)).map D.int).length ≤ 80 := by
      rw [List.length_map, List.length_map, List.length_take, List.length_drop]; omega
    by_cases h : i < (ns.length : Nat)
    · have ei := atI_intsD i0 h
      wp_walk using af2_p_done_on_row, h, ei, e1, e2
      refine ⟨size_of (by simpa using (show _ ≤ 1000000 from Nat.le_trans hz (by decide))), ?_⟩
      rw [e3]
      wp_walk using af1_p_done_on_row
      exact q
    · rw [getD_far h] at q
      wp_walk using af2_p_done_on_row, h, e1, e2
      refine ⟨size_of (by simpa using (show _ ≤ 1000000 from Nat.le_trans hz (by decide))), ?_⟩
      rw [e3]
      wp_walk using af1_p_done_on_row
      exact q

def MD.more : MD → List (Int × Int) → Prop
  | .set k _, ps => k ∉ ps.map (·.1) ∧ ps.length = 40
  | _, _ => False
def fs_p_done_on_map (K : PySem.W.Frag) : FS := fun ds M Q X => ∃ (ps : List (Int × Int)) (m : MD), ds = [.tup (ps.map pI), .str m.w, .tup (m.ns.map .int)] ∧ ps.length ≤ 40 ∧ (m.more ps → X (He.ga K "TooMany") M) ∧ (¬ m.more ps → Q (.tup [.tup ((aftM m ps).map pI), .int (telM m ps)]) M)
theorem mo_p_done_on_map {K : PySem.W.Frag} : MonoF (fs_p_done_on_map K) := fun _ _ _ _ _ _ h hx ⟨ns, w, e, c, q1, q2⟩ => ⟨ns, w, e, c, fun z => hx _ _ (q1 z), fun z => h _ _ (q2 z)⟩
theorem valM_in : ∀ {ps : List (Int × Int)} {k : Int}, k ∈ ps.map (·.1) → (ps[(ps.map (·.1)).idxOf k]?).map (·.2) = some (valM ps k)
  | [], _, h => by cases h
  | p :: ps, k, h => by
    unfold valM
    rw [List.map_cons, List.idxOf_cons, List.find?_cons]
    by_cases e : p.1 = k
    · rw [decide_eq_true e, show (p.1 == k) = true from beq_iff_eq.mpr e]
      rfl
    · rw [decide_eq_false e, show (p.1 == k) = false from beq_eq_false_iff_ne.mpr e]
      exact valM_in ((List.mem_cons.mp h).resolve_left fun z => e z.symm)
theorem valM_out {ps : List (Int × Int)} {k : Int} (h : k ∉ ps.map (·.1)) : valM ps k = -1 := by
  unfold valM
  rw [List.find?_eq_none.mpr fun p hp e => h (List.mem_map.mpr ⟨p, hp, of_decide_eq_true e⟩)]
  rfl
theorem idx_val {ps : List (Int × Int)} {k : Int} (h : k ∈ ps.map (·.1)) : atI (ps.map pI) (((ps.map (·.1)).idxOf k : Nat) : Int) = some (pI (ps.getD ((ps.map (·.1)).idxOf k) (0, 0))) ∧ (ps.getD ((ps.map (·.1)).idxOf k) (0, 0)).2 = valM ps k := by
  have h1 := List.idxOf_lt_length_of_mem h
  rw [List.length_map] at h1
  have h2 := valM_in h
  rw [List.getElem?_eq_getElem h1] at h2
  rw [List.getD_eq_getElem?_getD, List.getElem?_eq_getElem h1]
  refine ⟨atI_nat (by omega) ?_, Option.some.inj h2⟩
  rw [Int.toNat_natCast, List.getElem?_map, List.getElem?_eq_getElem h1]
  rfl
theorem map_pI_fst (ps : List (Int × Int)) : (ps.map fun p => D.int p.1) = (ps.map (·.1)).map .int := by rw [List.map_map]; rfl
/-- done_on_map -/
def af1_p_done_on_map (K : PySem.W.Frag) : GS := gSeq (gIfS (gB (g2 goEqA (gV 1) (gC (.str "drop")))) (gSet 0 (gCa gcTupleS (gCons (gFd (gLc (itsD (fun ds => ds) (gV 0)) (gtN 6) (gB (g2 goNeA (g2 goIx (gV 6) (gC (.int 0))) (gV 3))) (gV 6) [6])) gNil))) (gIfS (gAnd (gB (g2 goEqA (gV 1) (gC (.str "set")))) (gB (g2 (goIn false) (gV 3) (gV 4)))) (gSet 0 (gCa gcTupleS (gCons (gFd (gLc (itsD (fun ds => ds) (gV 0)) (gtN 6) (gYes) (gIf (gB (g2 goEqA (g2 goIx (gV 6) (gC (.int 0))) (gV 3))) (gTup (gCons (gV 3) (gCons (g2 goIx (gV 2) (gC (.int 1))) gNil))) (gV 6)) [6])) gNil))) (gIfS (gB (g2 goEqA (gV 1) (gC (.str "set")))) (gSeq (gDrop (gCallP (fs_p_need_place K) (gCons (gV 0) gNil))) (gSet 0 (g2 goAdd (gV 0) (gTup (gCons (gTup (gCons (gV 3) (gCons (g2 goIx (gV 2) (gC (.int 1))) gNil))) gNil))))) (gNext)))) (gRet (gTup (gCons (gV 0) (gCons (gV 5) gNil))))
def af2_p_done_on_map (K : PySem.W.Frag) : GS := gSeq (gSet 5 (g1 guNeg (gC (.int 1)))) (gSeq (gIfS (gB (g2 (goIn false) (gV 3) (gV 4))) (gSet 5 (g2 goIx (g2 goIx (gV 0) (gIdx (gV 4) (gV 3))) (gC (.int 1)))) (gNext)) (af1_p_done_on_map K))
def g_p_done_on_map (K : PySem.W.Frag) : GS := gSeq (gSet 3 (g2 goIx (gV 2) (gC (.int 0)))) (gSeq (gSet 4 (gFd (gLc (itsD (fun ds => ds) (gV 0)) (gtN 6) (gYes) (g2 goIx (gV 6) (gC (.int 0))) [6]))) (gSeq (gIfS (gB (g2 goEqA (gV 1) (gC (.str "next")))) (gRet (gTup (gCons (gV 0) (gCons (gCallP (fs_p_least_from K) (gCons (gV 4) (gCons (gV 3) gNil))) gNil)))) (gNext)) (af2_p_done_on_map K)))
theorem h_p_done_on_map {K : PySem.W.Frag} : ∀ ds M Q X, (fs_p_done_on_map K) ds M Q X → ds.length = ([.v, .v, .v] : List AK).length → g_p_done_on_map K { nx := fun _ M' => Q .non M', rt := Q } (entry 7 [.v, .v, .v] ds X) M := by
  rintro ds M Q X ⟨ps, m, rfl, hl, q1, q2⟩ -
  have head : ∀ (k : Int) (ns : List Int) (w : PySem.Str), (∀ (M' : Mem), M' = M → (if w = "next" then Q (.tup [.tup (ps.map pI), .int (leastFrom (ps.map (·.1)) k)]) M' else
      af1_p_done_on_map K { nx := fun _ M' => Q .non M', rt := Q } ⟨[.v (.tup (ps.map pI)), .v (.str w), .v (.tup ((k :: ns).map .int)), .v (.int k), .v (.lst ((ps.map (·.1)).map .int)), .v (.int (valM ps k)), .n], X⟩ M')) →
      g_p_done_on_map K { nx := fun _ M' => Q .non M', rt := Q } (entry 7 [.v, .v, .v] [.tup (ps.map pI), .str w, .tup ((k :: ns).map .int)] X) M := fun k ns w hq => by
    have hq := hq M rfl
    wp_walk using g_p_done_on_map
    refine lc_mp (xs := ps) (enc := pI) (f := fun p => .int p.1) (fun p hp Q' q' => ?_) (size_of (by rw [List.length_nil]; omega)) ?_
    · wp_walk using pI
      exact q'
    rw [List.nil_append, map_pI_fst]
    wp_walk
    by_cases hw : w = "next"
    · rw [if_pos hw] at hq ⊢
      refine ⟨.lst ((ps.map (·.1)).map .int), ps.map (·.1), k, rfl, rfl, by rw [List.length_map]; omega, ?_⟩
      exact hq
    · rw [if_neg hw] at hq ⊢
      wp_walk using af2_p_done_on_map, goIn_lstI
      by_cases hk : k ∈ ps.map (·.1)
      · obtain ⟨e1, e2⟩ := idx_val hk
        rw [if_pos hk, ixD_intsI k _ hk 0, Nat.zero_add]
        refine ⟨⟨(ok1_lst (ok1_ints _)).ok, rfl⟩, ?_⟩
        wp_walk using e1
        wp_walk using pI
        rw [e2]
        exact hq
      · rw [if_neg hk]
        rw [valM_out hk] at hq
        exact hq
  cases m
  case next k =>
    have q := q2 fun z => z
    refine head k [] "next" fun M' e => ?_
    subst e
    rw [if_pos rfl]
    exact q
  case get k =>
    have q := q2 fun z => z
    refine head k [] "get" fun M' e => ?_
    subst e
    rw [if_neg (by decide)]
    wp_walk using af1_p_done_on_map
    rw [if_neg (by decide), if_neg (by decide), if_neg (by decide)]
    wp_walk
    exact q
  case drop k =>
    have q := q2 fun z => z
    refine head k [] "drop" fun M' e => ?_
    subst e
    rw [if_neg (by decide)]
    wp_walk using af1_p_done_on_map
    refine lc_fp (enc := pI) (f := pI) (p := fun p => !decide (p.1 = k)) (fun p hp Q' P' y1 y2 => ?_) (size_of (by rw [List.length_nil]; omega)) ?_
    · wp_walk using pI
      by_cases h : p.1 = k
      · rw [if_pos h]
        exact y2 (by rw [decide_eq_true h]; rfl)
      · rw [if_neg h]
        exact y1 (by rw [decide_eq_false h]; rfl)
    rw [List.nil_append]
    wp_walk
    exact q
  case set k v =>
    refine head k [v] "set" fun M' e => ?_
    subst e
    rw [if_neg (by decide)]
    wp_walk using af1_p_done_on_map, goIn_lstI
    rw [if_neg (by decide)]
    by_cases hk : k ∈ ps.map (·.1)
    · have q := q2 fun z => z.1 hk
      simp only [aftM, telM, putM, MD.k] at q
      rw [if_pos hk] at q
      rw [if_pos hk]
      refine lc_mp (xs := ps) (enc := pI) (f := fun p => pI (if p.1 = k then (k, v) else p)) (fun p hp Q' q' => ?_) (size_of (by rw [List.length_nil]; omega)) ?_
      · wp_walk using pI
        by_cases h : p.1 = k
        · rw [if_pos h] at q' ⊢
          exact q'
        · rw [if_neg h] at q' ⊢
          exact q'
      rw [List.nil_append, show (ps.map fun p => pI (if p.1 = k then (k, v) else p)) = (ps.map fun p => if p.1 = k then (k, v) else p).map pI by rw [List.map_map]; rfl]
      wp_walk
      exact q
    · rw [if_neg hk]
      refine ⟨.tup (ps.map pI), ps.map pI, rfl, rfl, fun z => ?_, fun z => q1 ⟨hk, by simpa using z⟩⟩
      have q := q2 fun y => z (by simpa using y.2)
      simp only [aftM, telM, putM, MD.k] at q
      rw [if_neg hk, List.map_append] at q
      wp_walk
      exact ⟨size_of (by simp; omega), q⟩

/-- things of a map, each key once -/
structure MapN (ps : List (Int × Int)) : Prop where
  len : ps.length ≤ 40
  rng : ∀ p ∈ ps, thingN p.1 ∧ thingN p.2
  nd : (ps.map (·.1)).Nodup
theorem isMapB_iff {d : D} : isMapB d = true ↔ ∃ ps : List (Int × Int), d = .tup (ps.map pI) ∧ MapN ps := by
  constructor
  · intro h
    cases d <;> first | (cases h; done) | skip
    rename_i xs
    have h' : (decide (xs.length ≤ 40) && (xs.all isPair && match pairsOf xs with
      | some ps => decide (ps.map (·.1)).Nodup
      | none => false)) = true := h
    rw [Bool.and_eq_true, Bool.and_eq_true, decide_eq_true_eq] at h'
    obtain ⟨ps, rfl, hn⟩ := pairs_of h'.2.1
    have h3 := h'.2.2
    rw [pairsOf_map] at h3
    exact ⟨ps, rfl, by simpa using h'.1, hn, of_decide_eq_true h3⟩
  · rintro ⟨ps, rfl, h1, h2, h3⟩
    show (decide ((ps.map pI).length ≤ 40) && ((ps.map pI).all isPair && match pairsOf (ps.map pI) with
      | some ps => decide (ps.map (·.1)).Nodup
      | none => false)) = true
    have e : (ps.map pI).all isPair = true := List.all_eq_true.mpr fun d hd => by
      obtain ⟨p, hp, rfl⟩ := List.mem_map.mp hd
      obtain ⟨⟨a, b⟩, c, d⟩ := h2 p hp
      show ((decide (0 ≤ p.1) && decide (p.1 ≤ 999999)) && (decide (0 ≤ p.2) && decide (p.2 ≤ 999999))) = true
      rw [decide_eq_true a, decide_eq_true b, decide_eq_true c, decide_eq_true d]; rfl
    rw [pairsOf_map, e, List.length_map, decide_eq_true h1]
    simpa using h3
structure RowN (ns : List Int) : Prop where
  len : ns.length ≤ 40
  rng : ∀ n ∈ ns, thingN n
theorem isRowB_iff {d : D} : isRowB d = true ↔ ∃ ns : List Int, d = .tup (ns.map .int) ∧ RowN ns := by
  constructor
  · intro h
    cases d <;> first | (cases h; done) | skip
    rename_i xs
    have h' : (decide (xs.length ≤ 40) && xs.all isThing) = true := h
    rw [Bool.and_eq_true, decide_eq_true_eq] at h'
    obtain ⟨ns, rfl, hn⟩ := things_ints h'.2
    exact ⟨ns, rfl, by simpa using h'.1, hn⟩
  · rintro ⟨ns, rfl, h1, h2⟩
    have e : (ns.map D.int).all isThing = true := List.all_eq_true.mpr fun d hd => by
      obtain ⟨n, hn, rfl⟩ := List.mem_map.mp hd
      have := h2 n hn
      show (decide (0 ≤ n) && decide (n ≤ 999999)) = true
      rw [decide_eq_true this.1, decide_eq_true this.2]; rfl
    show (decide ((ns.map D.int).length ≤ 40) && (ns.map D.int).all isThing) = true
    rw [e, List.length_map, decide_eq_true h1]
    rfl
/-- a deed done to plain things -/
def fs_p_done (K : PySem.W.Frag) : FS := fun ds M Q X => ∃ s t d, ds = [s, t, d] ∧ s.da = true ∧ t.da = true ∧ d.da = true ∧ (isSort s = false → X (He.ga K "NoSort") M) ∧
  ∀ so : So, s = .str so.s → (lieB so t = false → X (He.ga K "NoThings") M) ∧ (lieB so t = true → isDeedB so d = false → X (He.ga K "NoDeed") M) ∧
    (so = .set → ∀ ns w x, t = .tup (ns.map .int) → SetN ns → d = .tup [.str (W5.s w), .int x] → thingN x → (w = .put ∧ x ∉ ns ∧ ns.length = 40 → X (He.ga K "TooMany") M) ∧ (¬ (w = .put ∧ x ∉ ns ∧ ns.length = 40) → Q (.tup [.tup ((aftS w ns x).map .int), .int (telS w ns x)]) M)) ∧
    (so = .row → ∀ ns r, t = .tup (ns.map .int) → RowN ns → d = RD.d r → r.ok → (r.more ns → X (He.ga K "TooMany") M) ∧ (¬ r.more ns → Q (.tup [.tup ((aftR r ns).map .int), .int (telR r ns)]) M)) ∧
    (so = .map → ∀ ps m, t = .tup (ps.map pI) → MapN ps → d = MD.d m → m.ok → (m.more ps → X (He.ga K "TooMany") M) ∧ (¬ m.more ps → Q (.tup [.tup ((aftM m ps).map pI), .int (telM m ps)]) M))
theorem mo_p_done {K : PySem.W.Frag} : MonoF (fs_p_done K) := fun _ _ _ _ _ _ h hx ⟨s, t, d, e, c, c2, c3, q1, q2⟩ => ⟨s, t, d, e, c, c2, c3, fun z => hx _ _ (q1 z), fun so e => by
  obtain ⟨q3, q4, q5, q6, q7⟩ := q2 so e
  exact ⟨fun z => hx _ _ (q3 z), fun z z2 => hx _ _ (q4 z z2), fun z a b c z2 z3 z4 z5 => ⟨fun y => hx _ _ ((q5 z a b c z2 z3 z4 z5).1 y), fun y => h _ _ ((q5 z a b c z2 z3 z4 z5).2 y)⟩,
    fun z a b z2 z3 z4 z5 => ⟨fun y => hx _ _ ((q6 z a b z2 z3 z4 z5).1 y), fun y => h _ _ ((q6 z a b z2 z3 z4 z5).2 y)⟩, fun z a b z2 z3 z4 z5 => ⟨fun y => hx _ _ ((q7 z a b z2 z3 z4 z5).1 y), fun y => h _ _ ((q7 z a b z2 z3 z4 z5).2 y)⟩⟩⟩
theorem So.inj {a b : So} (h : D.str a.s = .str b.s) : a = b := by cases a <;> cases b <;> first | rfl | exact absurd (D.str.inj h) (by decide)
/-- done -/
def af1_p_done (K : PySem.W.Frag) : GS := gRet (gCallP (fs_p_done_on_map K) (gCons (gV 1) (gCons (g2 goIx (gV 2) (gC (.int 0))) (gCons (gsSl true (gV 2) (gPart (gC (.int 1))) (gNoP)) gNil))))
def af2_p_done (K : PySem.W.Frag) : GS := gSeq (gIfS (gB (g2 goEqA (gV 0) (gC (.str "row")))) (gRet (gCallP (fs_p_done_on_row K) (gCons (gV 1) (gCons (g2 goIx (gV 2) (gC (.int 0))) (gCons (gsSl true (gV 2) (gPart (gC (.int 1))) (gNoP)) gNil))))) (gNext)) (af1_p_done K)
def af3_p_done (K : PySem.W.Frag) : GS := gSeq (gIfS (gB (g2 goEqA (gV 0) (gC (.str "set")))) (gRet (gCallP (fs_p_done_on_set K) (gCons (gV 1) (gCons (g2 goIx (gV 2) (gC (.int 0))) (gCons (g2 goIx (gV 2) (gC (.int 1))) gNil))))) (gNext)) (af2_p_done K)
def af4_p_done (K : PySem.W.Frag) : GS := gSeq (gIfS (gNot (gTru (gCallP (fs_p_is_deed K) (gCons (gV 0) (gCons (gV 2) gNil))))) (gRaise (He.ga K "NoDeed")) (gNext)) (af3_p_done K)
def g_p_done (K : PySem.W.Frag) : GS := gSeq (gIfS (gNot (gTru (gCallP (fs_p_is_things K) (gCons (gV 0) (gCons (gV 1) gNil))))) (gRaise (He.ga K "NoThings")) (gNext)) (af4_p_done K)
theorem h_p_done {K : PySem.W.Frag} : ∀ ds M Q X, (fs_p_done K) ds M Q X → ds.length = ([.v, .v, .v] : List AK).length → g_p_done K { nx := fun _ M' => Q .non M', rt := Q } (entry 3 [.v, .v, .v] ds X) M := by
  rintro ds M Q X ⟨s, t, d, rfl, hs, ht, hd, q1, q2⟩ -
  wp_walk using g_p_done
  refine ⟨s, t, rfl, hs, ht, q1, fun so e => ?_⟩
  obtain ⟨q3, q4, q5, q6, q7⟩ := q2 so e
  subst e
  cases hl : lieB so t with
  | false =>
    wp_walk
    exact q3 hl
  | true =>
    wp_walk using af4_p_done
    refine ⟨.str so.s, d, rfl, rfl, hd, fun z => ?_, fun so' e => ?_⟩
    · rw [isSort_so] at z; cases z
    have e := So.inj e
    subst e
    cases hb : isDeedB so d with
    | false =>
      wp_walk
      exact q4 hl hb
    | true =>
      have cut1 : ∀ (x : D) (xs : List D), DL.cutD (x :: xs) (some 1) none = xs := fun x xs => by rw [cutS_drop (by omega)]; rfl
      cases so
      case set =>
        obtain ⟨ns, rfl, hn⟩ := isSetB_iff.mp hl
        obtain ⟨w, x, rfl, hx⟩ := set_deed hb
        obtain ⟨q8, q9⟩ := q5 rfl ns w x rfl hn rfl hx
        wp_walk using af3_p_done, So.s
        exact ⟨ns, w, x, rfl, hn.len, q8, q9⟩
      case row =>
        obtain ⟨ns, rfl, hn⟩ := isRowB_iff.mp hl
        obtain ⟨r, rfl, hr⟩ := row_deed hb
        obtain ⟨q8, q9⟩ := q6 rfl ns r rfl hn rfl hr
        wp_walk using af3_p_done, So.s
        rw [if_neg (by decide)]
        wp_walk using af2_p_done, RD.d, cut1
        exact ⟨ns, r, rfl, hn.len, fun x hx => (hr x hx).1, q8, q9⟩
      case map =>
        obtain ⟨ps, rfl, hn⟩ := isMapB_iff.mp hl
        obtain ⟨m, rfl, hm⟩ := map_deed hb
        obtain ⟨q8, q9⟩ := q7 rfl ps m rfl hn rfl hm
        wp_walk using af3_p_done, So.s
        rw [if_neg (by decide)]
        wp_walk using af2_p_done
        rw [if_neg (by decide)]
        wp_walk using af1_p_done, MD.d, cut1
        exact ⟨ps, m, rfl, hn.len, q8, q9⟩

end LW
namespace LW
open PySem PySem.Spec PySem.W PyProof.Rows L2 DL
local macro_rules | `(tactic| wp_walk) => `(tactic| simp only [gSeq, gSet, gRet, gRetN, gNext, gIfS, gDrop, gOwn, gApp, gExt, gForM, gLcM, gCnt, gTryV, gTryE, gxP, gxM, DL.Fr.mute, gIPut, gFrz, frz, gAsg, gPar, gPar3, gAug, gRaise, gRetM, gSetM, gMPut, gMGet, g1, g2, gC, gV, gVw, gB, gAnd, gOr, gNot, gNotV, gIf, DL.gCons, DL.gNil, DL.gTup, DL.gLst, gFl, gFd, gCa, gLenS, gPart, gNoP, gDisp, gPcons, gPnil, gtN, gtTup, gtCons, gtNil, gYes, gFor, gLc, giS, gCallP, gCallM, gScr, entry, aSls, aSl, DL.Fr.set, OM.d, wipeF, wipeS, keyD, List.length_cons, List.length_nil, List.cons_append, List.nil_append, List.append_nil, List.replicate_succ, List.replicate_zero, List.getElem?_cons_zero, List.getElem?_cons_succ, List.getElem?_nil, List.set_cons_zero, List.set_cons_succ, Nat.reduceAdd, Nat.reduceSub, if_true, if_false, ite_true, ite_false, reduceIte, Bool.false_eq_true, Bool.not_true, Bool.not_false, List.all_cons, List.all_nil, Bool.and_true, true_and, and_true, List.map_cons, List.map_nil, gIdx, ixT_ints, intsOf_map, Int.reduceToNat, Option.some.injEq, exists_eq_left', goAdd_int, goAdd_str, goAdd_tup, goAdd_lst, goAddW_int, goAddW_lst, goPlus_int, goI_int, guI_int, gcI1_int, goIx_lst, gcLen_lst, gcTupleS_lst, gcList_lst, goRevA_lst, goIx_tup, gcLen_tup, gcTupleS_tup, gcList_tup, goRevA_tup, gcTuple_lst, goIx_str, gcLen_str, gcInt_int, gcInt_bl, goMulT_tup, goMulL_lst, goIsB_bl, goIsN_non, isN_int, isN_bl, isN_str, isN_tup, isN_lst, isN_dic, isN_ref, isN_ty, isN_non, gTru_k, truK_non, truK_bl, truK_int, truK_lst, truK_tup, truK_str, gFlist_k, lstK_lst, lstK_tup, gsSl_k, slK_lst, slK_tup, slK_str, itsD_k, itsK_lst, itsK_tup, giZip_k, zipK_lst, zipK_tup, giR1_k, ran1K_nat, ran1K_int, giR2_k, ran2K_int, goLtA_int, goLtA_tup, ok_non, eqv_bl, goEq_int, goNe_int, goEq_bl, goNe_bl, gcMin_ints, gcMinT_ints, gcMax_ints, gcMaxT_ints, intsOf_mapf, blsOf_mapf, gcMin_f, gcMax_f, gcMin_2, gcMax_2, gcSum_ints, gcSum_f, gcBls_f, all_mapid, any_mapid, at_0, at_1, at_2, at_3, at_last, noOwn_nil, noOwn_1, noOwn_2, nof_n, nof_v, nof_b, nof_s, zipD_map, enumD_map, isi_non_int, isi_non_bool, isi_non_str, isi_non_tuple, isi_non_list, isi_non_dict, isi_bl_int, isi_bl_bool, isi_bl_str, isi_bl_tuple, isi_bl_list, isi_bl_dict, isi_int_int, isi_int_bool, isi_int_str, isi_int_tuple, isi_int_list, isi_int_dict, isi_str_int, isi_str_bool, isi_str_str, isi_str_tuple, isi_str_list, isi_str_dict, isi_tup_int, isi_tup_bool, isi_tup_str, isi_tup_tuple, isi_tup_list, isi_tup_dict, isi_lst_int, isi_lst_bool, isi_lst_str, isi_lst_tuple, isi_lst_list, isi_lst_dict, isi_dic_int, isi_dic_bool, isi_dic_str, isi_dic_tuple, isi_dic_list, isi_dic_dict, gcAll, gcAny, goMod, goFdiv, decide_eq_true_eq, Bool.not_eq_true', decide_eq_false_iff_not, ite_not, Bool.and_eq_true, not_false_eq_true, Bool.not_eq_true, List.map_append, Int.zero_add, List.any_cons, List.any_nil, Bool.true_and, Bool.or_false, Bool.xor_false, Bool.false_xor, Bool.true_xor, Bool.not_not, forall_const, Int.toNat_natCast, List.length_map, List.length_append, and_self, ne_eq, List.map_eq_nil_iff, not_true_eq_false, eq_self, goMulI, goSub, goPow, goLe, goGt, goGe, guNeg, gcAbs, goEq_str, goNe_str, goEq_tup, goNe_tup, goEq_lst, goNe_lst, goEq_non, goNe_non, gAndV_k, gOrV_k, gCh_k, blK_bl, ite_bf, reduceCtorEq, Int.reducePow, Int.reduceLT, Int.reduceLE, Int.reduceNeg, sz0, se0, sz1, se1, sz2, se2, sz3, se3, sz4, se4, sz5, se5, sz6, se6, sz7, se7, sz8, se8, sz9, se9, gFld, fldK_ref, gPutF, gPutFM, putFK_ref, gDrf, drfK_ref, gMApp, mlK_ref, gMPop, popK_int, gMIns, ins2K_2, insK_int, gMeth, mthK_ref, gMake, giR3, gFlR1, gFlR2, rg2K_int, gLenSet, lenSetK_lst, lenSetK_tup, gMinD, minDK_lst, giMem, giBA, gMIdx, goTab, gFsort, sortK_lst, sortK_tup])
local macro_rules | `(tactic| wp_walk using $ts,*) => `(tactic| simp only [$[$ts:term],*, gSeq, gSet, gRet, gRetN, gNext, gIfS, gDrop, gOwn, gApp, gExt, gForM, gLcM, gCnt, gTryV, gTryE, gxP, gxM, DL.Fr.mute, gIPut, gFrz, frz, gAsg, gPar, gPar3, gAug, gRaise, gRetM, gSetM, gMPut, gMGet, g1, g2, gC, gV, gVw, gB, gAnd, gOr, gNot, gNotV, gIf, DL.gCons, DL.gNil, DL.gTup, DL.gLst, gFl, gFd, gCa, gLenS, gPart, gNoP, gDisp, gPcons, gPnil, gtN, gtTup, gtCons, gtNil, gYes, gFor, gLc, giS, gCallP, gCallM, gScr, entry, aSls, aSl, DL.Fr.set, OM.d, wipeF, wipeS, keyD, List.length_cons, List.length_nil, List.cons_append, List.nil_append, List.append_nil, List.replicate_succ, List.replicate_zero, List.getElem?_cons_zero, List.getElem?_cons_succ, List.getElem?_nil, List.set_cons_zero, List.set_cons_succ, Nat.reduceAdd, Nat.reduceSub, if_true, if_false, ite_true, ite_false, reduceIte, Bool.false_eq_true, Bool.not_true, Bool.not_false, List.all_cons, List.all_nil, Bool.and_true, true_and, and_true, List.map_cons, List.map_nil, gIdx, ixT_ints, intsOf_map, Int.reduceToNat, Option.some.injEq, exists_eq_left', goAdd_int, goAdd_str, goAdd_tup, goAdd_lst, goAddW_int, goAddW_lst, goPlus_int, goI_int, guI_int, gcI1_int, goIx_lst, gcLen_lst, gcTupleS_lst, gcList_lst, goRevA_lst, goIx_tup, gcLen_tup, gcTupleS_tup, gcList_tup, goRevA_tup, gcTuple_lst, goIx_str, gcLen_str, gcInt_int, gcInt_bl, goMulT_tup, goMulL_lst, goIsB_bl, goIsN_non, isN_int, isN_bl, isN_str, isN_tup, isN_lst, isN_dic, isN_ref, isN_ty, isN_non, gTru_k, truK_non, truK_bl, truK_int, truK_lst, truK_tup, truK_str, gFlist_k, lstK_lst, lstK_tup, gsSl_k, slK_lst, slK_tup, slK_str, itsD_k, itsK_lst, itsK_tup, giZip_k, zipK_lst, zipK_tup, giR1_k, ran1K_nat, ran1K_int, giR2_k, ran2K_int, goLtA_int, goLtA_tup, ok_non, eqv_bl, goEq_int, goNe_int, goEq_bl, goNe_bl, gcMin_ints, gcMinT_ints, gcMax_ints, gcMaxT_ints, intsOf_mapf, blsOf_mapf, gcMin_f, gcMax_f, gcMin_2, gcMax_2, gcSum_ints, gcSum_f, gcBls_f, all_mapid, any_mapid, at_0, at_1, at_2, at_3, at_last, noOwn_nil, noOwn_1, noOwn_2, nof_n, nof_v, nof_b, nof_s, zipD_map, enumD_map, isi_non_int, isi_non_bool, isi_non_str, isi_non_tuple, isi_non_list, isi_non_dict, isi_bl_int, isi_bl_bool, isi_bl_str, isi_bl_tuple, isi_bl_list, isi_bl_dict, isi_int_int, isi_int_bool, isi_int_str, isi_int_tuple, isi_int_list, isi_int_dict, isi_str_int, isi_str_bool, isi_str_str, isi_str_tuple, isi_str_list, isi_str_dict, isi_tup_int, isi_tup_bool, isi_tup_str, isi_tup_tuple, isi_tup_list, isi_tup_dict, isi_lst_int, isi_lst_bool, isi_lst_str, isi_lst_tuple, isi_lst_list, isi_lst_dict, isi_dic_int, isi_dic_bool, isi_dic_str, isi_dic_tuple, isi_dic_list, isi_dic_dict, gcAll, gcAny, goMod, goFdiv, decide_eq_true_eq, Bool.not_eq_true', decide_eq_false_iff_not, ite_not, Bool.and_eq_true, not_false_eq_true, Bool.not_eq_true, List.map_append, Int.zero_add, List.any_cons, List.any_nil, Bool.true_and, Bool.or_false, Bool.xor_false, Bool.false_xor, Bool.true_xor, Bool.not_not, forall_const, Int.toNat_natCast, List.length_map, List.length_append, and_self, ne_eq, List.map_eq_nil_iff, not_true_eq_false, eq_self, goMulI, goSub, goPow, goLe, goGt, goGe, guNeg, gcAbs, goEq_str, goNe_str, goEq_tup, goNe_tup, goEq_lst, goNe_lst, goEq_non, goNe_non, gAndV_k, gOrV_k, gCh_k, blK_bl, ite_bf, reduceCtorEq, Int.reducePow, Int.reduceLT, Int.reduceLE, Int.reduceNeg, sz0, se0, sz1, se1, sz2, se2, sz3, se3, sz4, se4, sz5, se5, sz6, se6, sz7, se7, sz8, se8, sz9, se9, gFld, fldK_ref, gPutF, gPutFM, putFK_ref, gDrf, drfK_ref, gMApp, mlK_ref, gMPop, popK_int, gMIns, ins2K_2, insK_int, gMeth, mthK_ref, gMake, giR3, gFlR1, gFlR2, rg2K_int, gLenSet, lenSetK_lst, lenSetK_tup, gMinD, minDK_lst, giMem, giBA, gMIdx, goTab, gFsort, sortK_lst, sortK_tup])
variable {K : PySem.W.Frag}
/-! what the laws of plain shelves share -/
theorem eqv_pyI : ∀ ns ms : List Int, PyData.eqvAll (D.pyL (ns.map D.int)) (D.pyL (ms.map D.int)) = decide (ns = ms)
  | [], [] => rfl
  | [], m :: ms => by simp [D.pyL, PyData.eqvAll]
  | n :: ns, [] => by simp [D.pyL, PyData.eqvAll]
  | n :: ns, m :: ms => by
    simp only [List.map_cons, D.pyL, PyData.eqvAll, eqv_pyI ns ms]
    have h := eqv_int n m
    simp only [D.eqv, D.py] at h
    simp only [D.py]
    rw [h, Bool.eq_iff_iff, Bool.and_eq_true, decide_eq_true_eq, decide_eq_true_eq, decide_eq_true_eq, List.cons.injEq]
theorem eqv_lstI (ns ms : List Int) : D.eqv (.lst (ns.map .int)) (.lst (ms.map .int)) = decide (ns = ms) := by
  simp only [D.eqv, D.py, PyData.eqv]
  exact eqv_pyI ns ms
theorem eqv_tupI (ns ms : List Int) : D.eqv (.tup (ns.map .int)) (.tup (ms.map .int)) = decide (ns = ms) := by
  simp only [D.eqv, D.py, PyData.eqv]
  exact eqv_pyI ns ms
theorem ok_lI (ns : List Int) : D.ok (.lst (ns.map .int)) = true := (ok1_lst (ok1_ints ns)).ok
theorem ok_tI (ns : List Int) : D.ok (.tup (ns.map .int)) = true := (ok1_tup (ok1_ints ns)).ok
theorem goNe_lI {ns ms : List Int} {M : Mem} {Q : D → Mem → Prop} (q : Q (.bl (!decide (ns = ms))) M) : goNeA (.lst (ns.map .int)) (.lst (ms.map .int)) M Q := by
  rw [goNe_lst, eqv_lstI]
  exact ⟨⟨ok_lI ns, ok_lI ms⟩, q⟩
theorem goEq_lI {ns ms : List Int} {M : Mem} {Q : D → Mem → Prop} (q : Q (.bl (decide (ns = ms))) M) : goEqA (.lst (ns.map .int)) (.lst (ms.map .int)) M Q := by
  rw [goEq_lst, eqv_lstI]
  exact ⟨⟨ok_lI ns, ok_lI ms⟩, q⟩
theorem full_inj {f s : Int} (hs : s = 1 ∨ s = 8 ∨ s = 999999 ∨ s = 65537 ∨ s = 333333) {i j : Nat} (hi : i < 60) (hj : j < 60) (h : (f + (i : Int) * s) % 1000000 = (f + (j : Int) * s) % 1000000) : i = j := by
  rcases hs with rfl | rfl | rfl | rfl | rfl <;> omega
theorem pairs_dr : ∀ (ns : List Int) (zs : List D), zs.length = ns.length → (∀ (i : Nat) (x : Int) (z : D), ns[i]? = some x → zs[i]? = some z → ∃ v, z = .tup [.int x, .int v] ∧ thingN v) → ∃ ps : List (Int × Int), zs = ps.map pI ∧ ps.map (·.1) = ns ∧ ∀ p ∈ ps, thingN p.2
  | [], zs, h, _ => ⟨[], List.length_eq_zero_iff.mp h, rfl, by simp⟩
  | n :: ns, [], h, _ => by cases h
  | n :: ns, z :: zs, h, q => by
    obtain ⟨ps, e1, e2, e3⟩ := pairs_dr ns zs (by simpa using h) fun i x z h1 h2 => q (i + 1) x z (by simpa using h1) (by simpa using h2)
    obtain ⟨v, rfl, hv⟩ := q 0 n z rfl rfl
    refine ⟨(n, v) :: ps, by rw [e1]; rfl, by rw [← e2]; rfl, fun p hp => ?_⟩
    rcases List.mem_cons.mp hp with rfl | hp
    · exact hv
    · exact e3 p hp
/-- so many unlike things -/
def fs_l_full (K : PySem.W.Frag) : FS := DrawF (fun r => ∃ (so : So) (n : Nat), r = [.str so.s, .int n] ∧ n ≤ 50) fun r d => ∃ (so : So) (n : Nat), r = [.str so.s, .int n] ∧
  ((so ≠ .map → ∃ ns : List Int, d = .tup (ns.map .int) ∧ ns.length = n ∧ (∀ x ∈ ns, thingN x) ∧ ns.Nodup) ∧ (so = .map → ∃ ps : List (Int × Int), d = .tup (ps.map pI) ∧ ps.length = n ∧ (∀ p ∈ ps, thingN p.1 ∧ thingN p.2) ∧ (ps.map (·.1)).Nodup))
theorem mo_l_full {K : PySem.W.Frag} : MonoF (fs_l_full K) := drawF_mono
/-- _law_full -/
def g_l_full (K : PySem.W.Frag) : GS := gSeq (gAsg (gTup (gCons (gCallM (fs_l_take K) (gCons (gV 0) (gCons (gC (.int 1000000)) gNil))) (gCons (gCallM (fs_l_pick K) (gCons (gV 0) (gCons (gLst (gCons (gC (.int 1)) (gCons (gC (.int 8)) (gCons (gC (.int 999999)) (gCons (gC (.int 65537)) (gCons (gC (.int 333333)) gNil)))))) gNil))) gNil))) (gtTup (gtCons (gtN 3) (gtCons (gtN 4) gtNil)) 2)) (gSeq (gSet 5 (gFd (gLc (giR1 (gCons (gV 2) gNil)) (gtN 6) (gYes) (g2 goMod (g2 goAdd (gV 3) (g2 goMulI (gV 6) (gV 4))) (gC (.int 1000000))) [6]))) (gRet (gIf (gB (g2 goEqA (gV 1) (gC (.str "map")))) (gCa gcTupleS (gCons (gFd (gLc (itsD (fun ds => ds) (gV 5)) (gtN 7) (gYes) (gTup (gCons (gV 7) (gCons (gCallM (fs_l_take K) (gCons (gV 0) (gCons (gC (.int 1000000)) gNil))) gNil))) [7])) gNil)) (gCa gcTupleS (gCons (gV 5) gNil)))))
theorem h_l_full {K : PySem.W.Frag} : ∀ ds M Q X, (fs_l_full K) ds M Q X → ds.length = ([.v, .v, .v] : List AK).length → g_l_full K { nx := fun _ M' => Q .non M', rt := Q } (entry 8 [.v, .v, .v] ds X) M := by
  rintro ds M Q X ⟨a, r, rfl, ms, ⟨so, n, rfl, hn⟩, q⟩ -
  wp_walk using g_l_full
  refine take_of ms (by omega) (by omega) fun f f0 f1 => ?_
  wp_walk
  refine pick_of (K := K) ms rfl (by simp) (by simp) fun d hd => ?_
  obtain ⟨s, rfl, hs⟩ : ∃ s, d = .int s ∧ (s = 1 ∨ s = 8 ∨ s = 999999 ∨ s = 65537 ∨ s = 333333) := by
    simp only [List.mem_cons, List.not_mem_nil, or_false] at hd
    rcases hd with rfl | rfl | rfl | rfl | rfl <;> exact ⟨_, rfl, by omega⟩
  wp_walk
  refine ⟨by omega, ?_⟩
  refine lc_mp (xs := List.range n) (enc := fun (i : Nat) => D.int (0 + i)) (f := fun k : Nat => .int ((f + (k : Int) * s) % 1000000)) (fun k hk Q' q' => ?_) (size_of (by simp; omega)) ?_
  · have hk := List.mem_range.mp hk
    wp_walk
    exact ⟨.inl ⟨by omega, by omega⟩, q'⟩
  have e : (List.range n).map (fun k : Nat => D.int ((f + (k : Int) * s) % 1000000)) = ((List.range n).map fun k : Nat => (f + (k : Int) * s) % 1000000).map D.int := by rw [List.map_map]; rfl
  have hns : (∀ x ∈ (List.range n).map fun k : Nat => (f + (k : Int) * s) % 1000000, thingN x) := fun x hx => by
    obtain ⟨k, hk, rfl⟩ := List.mem_map.mp hx
    have h1 := Int.emod_nonneg (f + (k : Int) * s) (show (1000000 : Int) ≠ 0 by decide)
    have h2 := Int.emod_lt_of_pos (f + (k : Int) * s) (show (0 : Int) < 1000000 by decide)
    exact ⟨h1, by omega⟩
  have hnd : ((List.range n).map fun k : Nat => (f + (k : Int) * s) % 1000000).Nodup := by
    rw [List.nodup_iff_pairwise_ne, List.pairwise_map]
    refine List.Pairwise.imp_of_mem ?_ List.pairwise_lt_range
    intro i j hi hj hij e
    have := full_inj hs (by have := List.mem_range.mp hi; omega) (by have := List.mem_range.mp hj; omega) e
    omega
  have hlen : ((List.range n).map fun k : Nat => (f + (k : Int) * s) % 1000000).length = n := by simp
  rw [List.nil_append, e]
  generalize (List.range n).map (fun k : Nat => (f + (k : Int) * s) % 1000000) = ns at hns hnd hlen ⊢
  wp_walk
  by_cases hso : so = .map
  · subst hso
    wp_walk using So.s
    refine lc_dr (xs := ns) (enc := D.int) (P := fun k d => ∃ v, d = .tup [.int k, .int v] ∧ thingN v) (fun k hk Q' q' => ?_) (size_of (by rw [List.length_nil]; omega)) fun zs hz hp => ?_
    · wp_walk
      refine take_of (K := K) ms (by omega) (by omega) fun v v0 v1 => ?_
      exact q' _ ⟨v, rfl, v0, by omega⟩
    obtain ⟨ps, rfl, e1, e2⟩ := pairs_dr ns zs hz hp
    rw [List.nil_append]
    wp_walk
    refine q _ ⟨.map, n, rfl, fun z => absurd rfl z, fun _ => ⟨ps, rfl, by rw [← List.length_map (f := (·.1)), e1]; exact hlen, fun p hp => ⟨hns p.1 (by rw [← e1]; exact List.mem_map.mpr ⟨p, hp, rfl⟩), e2 p hp⟩, by rw [e1]; exact hnd⟩⟩
  · rw [if_neg (by cases so <;> first | decide | exact absurd rfl hso)]
    wp_walk
    exact q _ ⟨so, n, rfl, fun _ => ⟨ns, rfl, hlen, hns, hnd⟩, fun z => absurd z hso⟩
/-- a thing that is there, beside such a one, or any -/
def fs_l_near (K : PySem.W.Frag) : FS := DrawF (fun r => ∃ ns : List Int, r = [.lst (ns.map .int)] ∧ (∀ x ∈ ns, thingN x) ∧ ns.length ≤ 1000) fun r d => ∃ n : Int, d = .int n ∧ thingN n
theorem mo_l_near {K : PySem.W.Frag} : MonoF (fs_l_near K) := drawF_mono
/-- _law_near -/
def af1_l_near (K : PySem.W.Frag) : GS := gSeq (gSet 3 (gCallM (fs_l_pick K) (gCons (gV 0) (gCons (gV 1) gNil)))) (gRet (g2 goIx (gLst (gCons (gV 3) (gCons (gV 3) (gCons (gV 3) (gCons (gCa gcMaxA (gCons (gC (.int 0)) (gCons (g2 goSub (gV 3) (gC (.int 1))) gNil))) (gCons (gCa gcMinA (gCons (gC (.int 999999)) (gCons (g2 goAdd (gV 3) (gC (.int 1))) gNil))) gNil)))))) (gV 2)))
def g_l_near (K : PySem.W.Frag) : GS := gSeq (gSet 2 (gCallM (fs_l_take K) (gCons (gV 0) (gCons (gC (.int 6)) gNil)))) (gSeq (gIfS (gOr (gB (g2 goEqA (gV 2) (gC (.int 5)))) (gB (g2 goEqA (gV 1) (gLst (gNil))))) (gRet (gCallM (fs_l_thing K) (gCons (gV 0) (gCons (gCallM (fs_l_take K) (gCons (gV 0) (gCons (gC (.int 5)) gNil))) gNil)))) (gNext)) (af1_l_near K))
theorem h_l_near {K : PySem.W.Frag} : ∀ ds M Q X, (fs_l_near K) ds M Q X → ds.length = ([.v, .v] : List AK).length → g_l_near K { nx := fun _ M' => Q .non M', rt := Q } (entry 4 [.v, .v] ds X) M := by
  rintro ds M Q X ⟨a, r, rfl, ms, ⟨ns, rfl, hs, hl⟩, q⟩ -
  have fin : ∀ n : Int, 0 ≤ n → n ≤ 999999 → Q (.int n) M := fun n h1 h2 => q _ ⟨n, rfl, h1, h2⟩
  wp_walk using g_l_near
  refine take_of ms (by omega) (by omega) fun w w0 w1 => ?_
  have any : fs_l_take K [.ref a, .int 5] M (fun d M' => fs_l_thing K [.ref a, d] M' Q X) X := take_of ms (by omega) (by omega) fun k k0 _ => thing_dr ms k0 fin
  wp_walk
  by_cases h5 : w = 5
  · rw [if_pos h5]
    exact any
  · rw [if_neg h5]
    refine ⟨⟨ok_lI ns, by decide +kernel⟩, ?_⟩
    rw [eqv_lnil]
    cases ns with
    | nil => exact any
    | cons n0 ns0 =>
      rw [if_neg (by simp)]
      wp_walk using af1_l_near
      refine pick_of (K := K) ms rfl (by simp) (by simp at hl ⊢; omega) fun d hd => ?_
      obtain ⟨n, hn, rfl⟩ := List.mem_map.mp (show d ∈ (n0 :: ns0).map D.int from hd)
      obtain ⟨r0, r1⟩ := hs n hn
      wp_walk
      have : w = 0 ∨ w = 1 ∨ w = 2 ∨ w = 3 ∨ w = 4 := by omega
      rcases this with rfl | rfl | rfl | rfl | rfl
      · exact fin n r0 r1
      · exact fin n r0 r1
      · exact fin n r0 r1
      · exact fin _ (by omega) (by omega)
      · exact fin _ (by omega) (by omega)
theorem near_drL {M : Mem} {a : Addr} {ns : List Int} {Q : D → Mem → Prop} {X : Addr → Mem → Prop} (ms : M a = some .st) (hs : ∀ x ∈ ns, thingN x) (hl : ns.length ≤ 1000) (h : ∀ n : Int, thingN n → Q (.int n) M) : fs_l_near K [.ref a, .lst (ns.map .int)] M Q X :=
  ⟨a, _, rfl, ms, ⟨ns, rfl, hs, hl⟩, fun d ⟨n, e, h1⟩ => by subst e; exact h n h1⟩

end LW
namespace LW
open PySem PySem.Spec PySem.W PyProof.Rows L2 DL
local macro_rules | `(tactic| wp_walk) => `(tactic| simp only [gSeq, gSet, gRet, gRetN, gNext, gIfS, gDrop, gOwn, gApp, gExt, gForM, gLcM, gCnt, gTryV, gTryE, gxP, gxM, DL.Fr.mute, gIPut, gFrz, frz, gAsg, gPar, gPar3, gAug, gRaise, gRetM, gSetM, gMPut, gMGet, g1, g2, gC, gV, gVw, gB, gAnd, gOr, gNot, gNotV, gIf, DL.gCons, DL.gNil, DL.gTup, DL.gLst, gFl, gFd, gCa, gLenS, gPart, gNoP, gDisp, gPcons, gPnil, gtN, gtTup, gtCons, gtNil, gYes, gFor, gLc, giS, gCallP, gCallM, gScr, entry, aSls, aSl, DL.Fr.set, OM.d, wipeF, wipeS, keyD, List.length_cons, List.length_nil, List.cons_append, List.nil_append, List.append_nil, List.replicate_succ, List.replicate_zero, List.getElem?_cons_zero, List.getElem?_cons_succ, List.getElem?_nil, List.set_cons_zero, List.set_cons_succ, Nat.reduceAdd, Nat.reduceSub, if_true, if_false, ite_true, ite_false, reduceIte, Bool.false_eq_true, Bool.not_true, Bool.not_false, List.all_cons, List.all_nil, Bool.and_true, true_and, and_true, List.map_cons, List.map_nil, gIdx, ixT_ints, intsOf_map, Int.reduceToNat, Option.some.injEq, exists_eq_left', goAdd_int, goAdd_str, goAdd_tup, goAdd_lst, goAddW_int, goAddW_lst, goPlus_int, goI_int, guI_int, gcI1_int, goIx_lst, gcLen_lst, gcTupleS_lst, gcList_lst, goRevA_lst, goIx_tup, gcLen_tup, gcTupleS_tup, gcList_tup, goRevA_tup, gcTuple_lst, goIx_str, gcLen_str, gcInt_int, gcInt_bl, goMulT_tup, goMulL_lst, goIsB_bl, goIsN_non, isN_int, isN_bl, isN_str, isN_tup, isN_lst, isN_dic, isN_ref, isN_ty, isN_non, gTru_k, truK_non, truK_bl, truK_int, truK_lst, truK_tup, truK_str, gFlist_k, lstK_lst, lstK_tup, gsSl_k, slK_lst, slK_tup, slK_str, itsD_k, itsK_lst, itsK_tup, giZip_k, zipK_lst, zipK_tup, giR1_k, ran1K_nat, ran1K_int, giR2_k, ran2K_int, goLtA_int, goLtA_tup, ok_non, eqv_bl, goEq_int, goNe_int, goEq_bl, goNe_bl, gcMin_ints, gcMinT_ints, gcMax_ints, gcMaxT_ints, intsOf_mapf, blsOf_mapf, gcMin_f, gcMax_f, gcMin_2, gcMax_2, gcSum_ints, gcSum_f, gcBls_f, all_mapid, any_mapid, at_0, at_1, at_2, at_3, at_last, noOwn_nil, noOwn_1, noOwn_2, nof_n, nof_v, nof_b, nof_s, zipD_map, enumD_map, isi_non_int, isi_non_bool, isi_non_str, isi_non_tuple, isi_non_list, isi_non_dict, isi_bl_int, isi_bl_bool, isi_bl_str, isi_bl_tuple, isi_bl_list, isi_bl_dict, isi_int_int, isi_int_bool, isi_int_str, isi_int_tuple, isi_int_list, isi_int_dict, isi_str_int, isi_str_bool, isi_str_str, isi_str_tuple, isi_str_list, isi_str_dict, isi_tup_int, isi_tup_bool, isi_tup_str, isi_tup_tuple, isi_tup_list, isi_tup_dict, isi_lst_int, isi_lst_bool, isi_lst_str, isi_lst_tuple, isi_lst_list, isi_lst_dict, isi_dic_int, isi_dic_bool, isi_dic_str, isi_dic_tuple, isi_dic_list, isi_dic_dict, gcAll, gcAny, goMod, goFdiv, decide_eq_true_eq, Bool.not_eq_true', decide_eq_false_iff_not, ite_not, Bool.and_eq_true, not_false_eq_true, Bool.not_eq_true, List.map_append, Int.zero_add, List.any_cons, List.any_nil, Bool.true_and, Bool.or_false, Bool.xor_false, Bool.false_xor, Bool.true_xor, Bool.not_not, forall_const, Int.toNat_natCast, List.length_map, List.length_append, and_self, ne_eq, List.map_eq_nil_iff, not_true_eq_false, eq_self, goMulI, goSub, goPow, goLe, goGt, goGe, guNeg, gcAbs, goEq_str, goNe_str, goEq_tup, goNe_tup, goEq_lst, goNe_lst, goEq_non, goNe_non, gAndV_k, gOrV_k, gCh_k, blK_bl, ite_bf, reduceCtorEq, Int.reducePow, Int.reduceLT, Int.reduceLE, Int.reduceNeg, sz0, se0, sz1, se1, sz2, se2, sz3, se3, sz4, se4, sz5, se5, sz6, se6, sz7, se7, sz8, se8, sz9, se9, gFld, fldK_ref, gPutF, gPutFM, putFK_ref, gDrf, drfK_ref, gMApp, mlK_ref, gMPop, popK_int, gMIns, ins2K_2, insK_int, gMeth, mthK_ref, gMake, giR3, gFlR1, gFlR2, rg2K_int, gLenSet, lenSetK_lst, lenSetK_tup, gMinD, minDK_lst, giMem, giBA, gMIdx, goTab, gFsort, sortK_lst, sortK_tup])
local macro_rules | `(tactic| wp_walk using $ts,*) => `(tactic| simp only [$[$ts:term],*, gSeq, gSet, gRet, gRetN, gNext, gIfS, gDrop, gOwn, gApp, gExt, gForM, gLcM, gCnt, gTryV, gTryE, gxP, gxM, DL.Fr.mute, gIPut, gFrz, frz, gAsg, gPar, gPar3, gAug, gRaise, gRetM, gSetM, gMPut, gMGet, g1, g2, gC, gV, gVw, gB, gAnd, gOr, gNot, gNotV, gIf, DL.gCons, DL.gNil, DL.gTup, DL.gLst, gFl, gFd, gCa, gLenS, gPart, gNoP, gDisp, gPcons, gPnil, gtN, gtTup, gtCons, gtNil, gYes, gFor, gLc, giS, gCallP, gCallM, gScr, entry, aSls, aSl, DL.Fr.set, OM.d, wipeF, wipeS, keyD, List.length_cons, List.length_nil, List.cons_append, List.nil_append, List.append_nil, List.replicate_succ, List.replicate_zero, List.getElem?_cons_zero, List.getElem?_cons_succ, List.getElem?_nil, List.set_cons_zero, List.set_cons_succ, Nat.reduceAdd, Nat.reduceSub, if_true, if_false, ite_true, ite_false, reduceIte, Bool.false_eq_true, Bool.not_true, Bool.not_false, List.all_cons, List.all_nil, Bool.and_true, true_and, and_true, List.map_cons, List.map_nil, gIdx, ixT_ints, intsOf_map, Int.reduceToNat, Option.some.injEq, exists_eq_left', goAdd_int, goAdd_str, goAdd_tup, goAdd_lst, goAddW_int, goAddW_lst, goPlus_int, goI_int, guI_int, gcI1_int, goIx_lst, gcLen_lst, gcTupleS_lst, gcList_lst, goRevA_lst, goIx_tup, gcLen_tup, gcTupleS_tup, gcList_tup, goRevA_tup, gcTuple_lst, goIx_str, gcLen_str, gcInt_int, gcInt_bl, goMulT_tup, goMulL_lst, goIsB_bl, goIsN_non, isN_int, isN_bl, isN_str, isN_tup, isN_lst, isN_dic, isN_ref, isN_ty, isN_non, gTru_k, truK_non, truK_bl, truK_int, truK_lst, truK_tup, truK_str, gFlist_k, lstK_lst, lstK_tup, gsSl_k, slK_lst, slK_tup, slK_str, itsD_k, itsK_lst, itsK_tup, giZip_k, zipK_lst, zipK_tup, giR1_k, ran1K_nat, ran1K_int, giR2_k, ran2K_int, goLtA_int, goLtA_tup, ok_non, eqv_bl, goEq_int, goNe_int, goEq_bl, goNe_bl, gcMin_ints, gcMinT_ints, gcMax_ints, gcMaxT_ints, intsOf_mapf, blsOf_mapf, gcMin_f, gcMax_f, gcMin_2, gcMax_2, gcSum_ints, gcSum_f, gcBls_f, all_mapid, any_mapid, at_0, at_1, at_2, at_3, at_last, noOwn_nil, noOwn_1, noOwn_2, nof_n, nof_v, nof_b, nof_s, zipD_map, enumD_map, isi_non_int, isi_non_bool, isi_non_str, isi_non_tuple, isi_non_list, isi_non_dict, isi_bl_int, isi_bl_bool, isi_bl_str, isi_bl_tuple, isi_bl_list, isi_bl_dict, isi_int_int, isi_int_bool, isi_int_str, isi_int_tuple, isi_int_list, isi_int_dict, isi_str_int, isi_str_bool, isi_str_str, isi_str_tuple, isi_str_list, isi_str_dict, isi_tup_int, isi_tup_bool, isi_tup_str, isi_tup_tuple, isi_tup_list, isi_tup_dict, isi_lst_int, isi_lst_bool, isi_lst_str, isi_lst_tuple, isi_lst_list, isi_lst_dict, isi_dic_int, isi_dic_bool, isi_dic_str, isi_dic_tuple, isi_dic_list, isi_dic_dict, gcAll, gcAny, goMod, goFdiv, decide_eq_true_eq, Bool.not_eq_true', decide_eq_false_iff_not, ite_not, Bool.and_eq_true, not_false_eq_true, Bool.not_eq_true, List.map_append, Int.zero_add, List.any_cons, List.any_nil, Bool.true_and, Bool.or_false, Bool.xor_false, Bool.false_xor, Bool.true_xor, Bool.not_not, forall_const, Int.toNat_natCast, List.length_map, List.length_append, and_self, ne_eq, List.map_eq_nil_iff, not_true_eq_false, eq_self, goMulI, goSub, goPow, goLe, goGt, goGe, guNeg, gcAbs, goEq_str, goNe_str, goEq_tup, goNe_tup, goEq_lst, goNe_lst, goEq_non, goNe_non, gAndV_k, gOrV_k, gCh_k, blK_bl, ite_bf, reduceCtorEq, Int.reducePow, Int.reduceLT, Int.reduceLE, Int.reduceNeg, sz0, se0, sz1, se1, sz2, se2, sz3, se3, sz4, se4, sz5, se5, sz6, se6, sz7, se7, sz8, se8, sz9, se9, gFld, fldK_ref, gPutF, gPutFM, putFK_ref, gDrf, drfK_ref, gMApp, mlK_ref, gMPop, popK_int, gMIns, ins2K_2, insK_int, gMeth, mthK_ref, gMake, giR3, gFlR1, gFlR2, rg2K_int, gLenSet, lenSetK_lst, lenSetK_tup, gMinD, minDK_lst, giMem, giBA, gMIdx, goTab, gFsort, sortK_lst, sortK_tup])
variable {K : PySem.W.Frag}
/-! the law's word of a refusal -/
theorem is_of {tb : List (Addr × D × Bool)} {a C : Addr} {c : D} {b : Bool} {M : Mem} {Q : D → Mem → Prop} (ma : M a = some (.ho (L2.ExC (.ref C) a))) (h : (C, c, b) ∈ tb) (q : Q (.bl b) M) : gcIsX tb [.ref a, c] M Q := ⟨C, b, ma, h, q⟩
def excW : List (PySem.Str × PySem.Str) := [("NoSort", "sort"), ("NoThings", "things"), ("NoDeed", "deed"), ("NoKind", "kind"), ("TooMany", "many"), ("NoProgram", "program"), ("NoText", "text"), ("NoRun", "run"), ("NoCosts", "costs"), ("NoChoice", "choice"), ("NoShelf", "shelf"), ("NoRow", "row")]
def fs_l_word (K : PySem.W.Frag) : FS := fun ds M Q _ => ∃ (a : Addr) (x z : PySem.Str), ds = [.ref a] ∧ M a = some (.ho (L2.ExC (.ref (He.ga K x)) a)) ∧ (x, z) ∈ excW ∧ Q (.str z) M
theorem mo_l_word {K : PySem.W.Frag} : MonoF (fs_l_word K) := fun _ _ _ _ _ _ h _ ⟨a, x, z, e, c, c2, q⟩ => ⟨a, x, z, e, c, c2, h _ _ q⟩
/-- _law_word -/
def af1_l_word (K : PySem.W.Frag) : GS := gRet (g2 goIx (gV 2) (gIdx (gV 1) (gC (.bl true))))
def g_l_word (K : PySem.W.Frag) : GS := gSeq (gSet 1 (gLst (gCons (gCa (gcIsX [(He.ga K "NoChoice", .ref (He.ga K "NoSort"), false), (He.ga K "NoCosts", .ref (He.ga K "NoSort"), false), (He.ga K "NoDeed", .ref (He.ga K "NoSort"), false), (He.ga K "NoKind", .ref (He.ga K "NoSort"), false), (He.ga K "NoProgram", .ref (He.ga K "NoSort"), false), (He.ga K "NoRow", .ref (He.ga K "NoSort"), false), (He.ga K "NoRun", .ref (He.ga K "NoSort"), false), (He.ga K "NoShelf", .ref (He.ga K "NoSort"), false), (He.ga K "NoSort", .ref (He.ga K "NoSort"), true), (He.ga K "NoText", .ref (He.ga K "NoSort"), false), (He.ga K "NoThings", .ref (He.ga K "NoSort"), false), (He.ga K "TooMany", .ref (He.ga K "NoSort"), false)]) (gCons (gV 0) (gCons (gC (.ref (He.ga K "NoSort"))) gNil))) (gCons (gCa (gcIsX [(He.ga K "NoChoice", .ref (He.ga K "NoThings"), false), (He.ga K "NoCosts", .ref (He.ga K "NoThings"), false), (He.ga K "NoDeed", .ref (He.ga K "NoThings"), false), (He.ga K "NoKind", .ref (He.ga K "NoThings"), false), (He.ga K "NoProgram", .ref (He.ga K "NoThings"), false), (He.ga K "NoRow", .ref (He.ga K "NoThings"), false), (He.ga K "NoRun", .ref (He.ga K "NoThings"), false), (He.ga K "NoShelf", .ref (He.ga K "NoThings"), false), (He.ga K "NoSort", .ref (He.ga K "NoThings"), false), (He.ga K "NoText", .ref (He.ga K "NoThings"), false), (He.ga K "NoThings", .ref (He.ga K "NoThings"), true), (He.ga K "TooMany", .ref (He.ga K "NoThings"), false)]) (gCons (gV 0) (gCons (gC (.ref (He.ga K "NoThings"))) gNil))) (gCons (gCa (gcIsX [(He.ga K "NoChoice", .ref (He.ga K "NoDeed"), false), (He.ga K "NoCosts", .ref (He.ga K "NoDeed"), false), (He.ga K "NoDeed", .ref (He.ga K "NoDeed"), true), (He.ga K "NoKind", .ref (He.ga K "NoDeed"), false), (He.ga K "NoProgram", .ref (He.ga K "NoDeed"), false), (He.ga K "NoRow", .ref (He.ga K "NoDeed"), false), (He.ga K "NoRun", .ref (He.ga K "NoDeed"), false), (He.ga K "NoShelf", .ref (He.ga K "NoDeed"), false), (He.ga K "NoSort", .ref (He.ga K "NoDeed"), false), (He.ga K "NoText", .ref (He.ga K "NoDeed"), false), (He.ga K "NoThings", .ref (He.ga K "NoDeed"), false), (He.ga K "TooMany", .ref (He.ga K "NoDeed"), false)]) (gCons (gV 0) (gCons (gC (.ref (He.ga K "NoDeed"))) gNil))) (gCons (gCa (gcIsX [(He.ga K "NoChoice", .ref (He.ga K "NoKind"), false), (He.ga K "NoCosts", .ref (He.ga K "NoKind"), false), (He.ga K "NoDeed", .ref (He.ga K "NoKind"), false), (He.ga K "NoKind", .ref (He.ga K "NoKind"), true), (He.ga K "NoProgram", .ref (He.ga K "NoKind"), false), (He.ga K "NoRow", .ref (He.ga K "NoKind"), false), (He.ga K "NoRun", .ref (He.ga K "NoKind"), false), (He.ga K "NoShelf", .ref (He.ga K "NoKind"), false), (He.ga K "NoSort", .ref (He.ga K "NoKind"), false), (He.ga K "NoText", .ref (He.ga K "NoKind"), false), (He.ga K "NoThings", .ref (He.ga K "NoKind"), false), (He.ga K "TooMany", .ref (He.ga K "NoKind"), false)]) (gCons (gV 0) (gCons (gC (.ref (He.ga K "NoKind"))) gNil))) gNil)))))) (gSeq (gSet 1 (g2 goAdd (gV 1) (gLst (gCons (gCa (gcIsX [(He.ga K "NoChoice", .ref (He.ga K "TooMany"), false), (He.ga K "NoCosts", .ref (He.ga K "TooMany"), false), (He.ga K "NoDeed", .ref (He.ga K "TooMany"), false), (He.ga K "NoKind", .ref (He.ga K "TooMany"), false), (He.ga K "NoProgram", .ref (He.ga K "TooMany"), false), (He.ga K "NoRow", .ref (He.ga K "TooMany"), false), (He.ga K "NoRun", .ref (He.ga K "TooMany"), false), (He.ga K "NoShelf", .ref (He.ga K "TooMany"), false), (He.ga K "NoSort", .ref (He.ga K "TooMany"), false), (He.ga K "NoText", .ref (He.ga K "TooMany"), false), (He.ga K "NoThings", .ref (He.ga K "TooMany"), false), (He.ga K "TooMany", .ref (He.ga K "TooMany"), true)]) (gCons (gV 0) (gCons (gC (.ref (He.ga K "TooMany"))) gNil))) (gCons (gCa (gcIsX [(He.ga K "NoChoice", .ref (He.ga K "NoProgram"), false), (He.ga K "NoCosts", .ref (He.ga K "NoProgram"), false), (He.ga K "NoDeed", .ref (He.ga K "NoProgram"), false), (He.ga K "NoKind", .ref (He.ga K "NoProgram"), false), (He.ga K "NoProgram", .ref (He.ga K "NoProgram"), true), (He.ga K "NoRow", .ref (He.ga K "NoProgram"), false), (He.ga K "NoRun", .ref (He.ga K "NoProgram"), false), (He.ga K "NoShelf", .ref (He.ga K "NoProgram"), false), (He.ga K "NoSort", .ref (He.ga K "NoProgram"), false), (He.ga K "NoText", .ref (He.ga K "NoProgram"), false), (He.ga K "NoThings", .ref (He.ga K "NoProgram"), false), (He.ga K "TooMany", .ref (He.ga K "NoProgram"), false)]) (gCons (gV 0) (gCons (gC (.ref (He.ga K "NoProgram"))) gNil))) (gCons (gCa (gcIsX [(He.ga K "NoChoice", .ref (He.ga K "NoText"), false), (He.ga K "NoCosts", .ref (He.ga K "NoText"), false), (He.ga K "NoDeed", .ref (He.ga K "NoText"), false), (He.ga K "NoKind", .ref (He.ga K "NoText"), false), (He.ga K "NoProgram", .ref (He.ga K "NoText"), false), (He.ga K "NoRow", .ref (He.ga K "NoText"), false), (He.ga K "NoRun", .ref (He.ga K "NoText"), false), (He.ga K "NoShelf", .ref (He.ga K "NoText"), false), (He.ga K "NoSort", .ref (He.ga K "NoText"), false), (He.ga K "NoText", .ref (He.ga K "NoText"), true), (He.ga K "NoThings", .ref (He.ga K "NoText"), false), (He.ga K "TooMany", .ref (He.ga K "NoText"), false)]) (gCons (gV 0) (gCons (gC (.ref (He.ga K "NoText"))) gNil))) (gCons (gCa (gcIsX [(He.ga K "NoChoice", .ref (He.ga K "NoRun"), false), (He.ga K "NoCosts", .ref (He.ga K "NoRun"), false), (He.ga K "NoDeed", .ref (He.ga K "NoRun"), false), (He.ga K "NoKind", .ref (He.ga K "NoRun"), false), (He.ga K "NoProgram", .ref (He.ga K "NoRun"), false), (He.ga K "NoRow", .ref (He.ga K "NoRun"), false), (He.ga K "NoRun", .ref (He.ga K "NoRun"), true), (He.ga K "NoShelf", .ref (He.ga K "NoRun"), false), (He.ga K "NoSort", .ref (He.ga K "NoRun"), false), (He.ga K "NoText", .ref (He.ga K "NoRun"), false), (He.ga K "NoThings", .ref (He.ga K "NoRun"), false), (He.ga K "TooMany", .ref (He.ga K "NoRun"), false)]) (gCons (gV 0) (gCons (gC (.ref (He.ga K "NoRun"))) gNil))) gNil))))))) (gSeq (gSet 1 (g2 goAdd (gV 1) (gLst (gCons (gCa (gcIsX [(He.ga K "NoChoice", .ref (He.ga K "NoCosts"), false), (He.ga K "NoCosts", .ref (He.ga K "NoCosts"), true), (He.ga K "NoDeed", .ref (He.ga K "NoCosts"), false), (He.ga K "NoKind", .ref (He.ga K "NoCosts"), false), (He.ga K "NoProgram", .ref (He.ga K "NoCosts"), false), (He.ga K "NoRow", .ref (He.ga K "NoCosts"), false), (He.ga K "NoRun", .ref (He.ga K "NoCosts"), false), (He.ga K "NoShelf", .ref (He.ga K "NoCosts"), false), (He.ga K "NoSort", .ref (He.ga K "NoCosts"), false), (He.ga K "NoText", .ref (He.ga K "NoCosts"), false), (He.ga K "NoThings", .ref (He.ga K "NoCosts"), false), (He.ga K "TooMany", .ref (He.ga K "NoCosts"), false)]) (gCons (gV 0) (gCons (gC (.ref (He.ga K "NoCosts"))) gNil))) (gCons (gCa (gcIsX [(He.ga K "NoChoice", .ref (He.ga K "NoChoice"), true), (He.ga K "NoCosts", .ref (He.ga K "NoChoice"), false), (He.ga K "NoDeed", .ref (He.ga K "NoChoice"), false), (He.ga K "NoKind", .ref (He.ga K "NoChoice"), false), (He.ga K "NoProgram", .ref (He.ga K "NoChoice"), false), (He.ga K "NoRow", .ref (He.ga K "NoChoice"), false), (He.ga K "NoRun", .ref (He.ga K "NoChoice"), false), (He.ga K "NoShelf", .ref (He.ga K "NoChoice"), false), (He.ga K "NoSort", .ref (He.ga K "NoChoice"), false), (He.ga K "NoText", .ref (He.ga K "NoChoice"), false), (He.ga K "NoThings", .ref (He.ga K "NoChoice"), false), (He.ga K "TooMany", .ref (He.ga K "NoChoice"), false)]) (gCons (gV 0) (gCons (gC (.ref (He.ga K "NoChoice"))) gNil))) (gCons (gCa (gcIsX [(He.ga K "NoChoice", .ref (He.ga K "NoShelf"), false), (He.ga K "NoCosts", .ref (He.ga K "NoShelf"), false), (He.ga K "NoDeed", .ref (He.ga K "NoShelf"), false), (He.ga K "NoKind", .ref (He.ga K "NoShelf"), false), (He.ga K "NoProgram", .ref (He.ga K "NoShelf"), false), (He.ga K "NoRow", .ref (He.ga K "NoShelf"), false), (He.ga K "NoRun", .ref (He.ga K "NoShelf"), false), (He.ga K "NoShelf", .ref (He.ga K "NoShelf"), true), (He.ga K "NoSort", .ref (He.ga K "NoShelf"), false), (He.ga K "NoText", .ref (He.ga K "NoShelf"), false), (He.ga K "NoThings", .ref (He.ga K "NoShelf"), false), (He.ga K "TooMany", .ref (He.ga K "NoShelf"), false)]) (gCons (gV 0) (gCons (gC (.ref (He.ga K "NoShelf"))) gNil))) (gCons (gCa (gcIsX [(He.ga K "NoChoice", .ref (He.ga K "NoRow"), false), (He.ga K "NoCosts", .ref (He.ga K "NoRow"), false), (He.ga K "NoDeed", .ref (He.ga K "NoRow"), false), (He.ga K "NoKind", .ref (He.ga K "NoRow"), false), (He.ga K "NoProgram", .ref (He.ga K "NoRow"), false), (He.ga K "NoRow", .ref (He.ga K "NoRow"), true), (He.ga K "NoRun", .ref (He.ga K "NoRow"), false), (He.ga K "NoShelf", .ref (He.ga K "NoRow"), false), (He.ga K "NoSort", .ref (He.ga K "NoRow"), false), (He.ga K "NoText", .ref (He.ga K "NoRow"), false), (He.ga K "NoThings", .ref (He.ga K "NoRow"), false), (He.ga K "TooMany", .ref (He.ga K "NoRow"), false)]) (gCons (gV 0) (gCons (gC (.ref (He.ga K "NoRow"))) gNil))) gNil))))))) (gSeq (gSet 2 (gLst (gCons (gC (.str "sort")) (gCons (gC (.str "things")) (gCons (gC (.str "deed")) (gCons (gC (.str "kind")) (gCons (gC (.str "many")) (gCons (gC (.str "program")) (gCons (gC (.str "text")) (gCons (gC (.str "run")) (gCons (gC (.str "costs")) (gCons (gC (.str "choice")) (gCons (gC (.str "shelf")) (gCons (gC (.str "row")) gNil)))))))))))))) (gSeq (gIfS (gOr (gB (g2 goNeA (gCnt (gV 1) (gC (.bl true))) (gC (.int 1)))) (gNot (gTru (gCa (gcIsX [(He.ga K "NoChoice", .ty "ValueError", true), (He.ga K "NoCosts", .ty "ValueError", true), (He.ga K "NoDeed", .ty "ValueError", true), (He.ga K "NoKind", .ty "ValueError", true), (He.ga K "NoProgram", .ty "ValueError", true), (He.ga K "NoRow", .ty "ValueError", true), (He.ga K "NoRun", .ty "ValueError", true), (He.ga K "NoShelf", .ty "ValueError", true), (He.ga K "NoSort", .ty "ValueError", true), (He.ga K "NoText", .ty "ValueError", true), (He.ga K "NoThings", .ty "ValueError", true), (He.ga K "TooMany", .ty "ValueError", true)]) (gCons (gV 0) (gCons (gC (.ty "ValueError")) gNil)))))) (gRet (gC (.str "more"))) (gNext)) (af1_l_word K)))))
theorem h_l_word {K : PySem.W.Frag} : ∀ ds M Q X, (fs_l_word K) ds M Q X → ds.length = ([.v] : List AK).length → g_l_word K { nx := fun _ M' => Q .non M', rt := Q } (entry 3 [.v] ds X) M := by
  rintro ds M Q X ⟨a, x, z, rfl, ma, hx, q⟩ -
  simp only [excW, List.mem_cons, List.not_mem_nil, or_false, Prod.mk.injEq] at hx
  rcases hx with ⟨rfl, rfl⟩ | ⟨rfl, rfl⟩ | ⟨rfl, rfl⟩ | ⟨rfl, rfl⟩ | ⟨rfl, rfl⟩ | ⟨rfl, rfl⟩ | ⟨rfl, rfl⟩ | ⟨rfl, rfl⟩ | ⟨rfl, rfl⟩ | ⟨rfl, rfl⟩ | ⟨rfl, rfl⟩ | ⟨rfl, rfl⟩
  all_goals
    wp_walk using g_l_word
    refine is_of ma (by repeat (first | with_reducible exact List.mem_cons_self .. | apply List.mem_cons_of_mem)) ?_
    refine is_of ma (by repeat (first | with_reducible exact List.mem_cons_self .. | apply List.mem_cons_of_mem)) ?_
    refine is_of ma (by repeat (first | with_reducible exact List.mem_cons_self .. | apply List.mem_cons_of_mem)) ?_
    refine is_of ma (by repeat (first | with_reducible exact List.mem_cons_self .. | apply List.mem_cons_of_mem)) ?_
    refine is_of ma (by repeat (first | with_reducible exact List.mem_cons_self .. | apply List.mem_cons_of_mem)) ?_
    refine is_of ma (by repeat (first | with_reducible exact List.mem_cons_self .. | apply List.mem_cons_of_mem)) ?_
    refine is_of ma (by repeat (first | with_reducible exact List.mem_cons_self .. | apply List.mem_cons_of_mem)) ?_
    refine is_of ma (by repeat (first | with_reducible exact List.mem_cons_self .. | apply List.mem_cons_of_mem)) ?_
    refine is_of ma (by repeat (first | with_reducible exact List.mem_cons_self .. | apply List.mem_cons_of_mem)) ?_
    refine is_of ma (by repeat (first | with_reducible exact List.mem_cons_self .. | apply List.mem_cons_of_mem)) ?_
    refine is_of ma (by repeat (first | with_reducible exact List.mem_cons_self .. | apply List.mem_cons_of_mem)) ?_
    refine is_of ma (by repeat (first | with_reducible exact List.mem_cons_self .. | apply List.mem_cons_of_mem)) ?_
    wp_walk
    refine ⟨size_of (by omega), ⟨by decide +kernel, by decide +kernel⟩, ?_⟩
    rw [if_pos (by decide +kernel)]
    refine is_of ma (by repeat (first | with_reducible exact List.mem_cons_self .. | apply List.mem_cons_of_mem)) ?_
    wp_walk using af1_l_word
    refine ⟨⟨by decide +kernel, by decide +kernel⟩, ?_⟩
    exact q
theorem done_setX {ns : List Int} {w : W5} {x : Int} {M : Mem} {Q : D → Mem → Prop} {X : Addr → Mem → Prop} (hs : SetN ns) (hx : thingN x) (qx : (w = .put ∧ x ∉ ns ∧ ns.length = 40) → X (He.ga K "TooMany") M) (q : ¬ (w = .put ∧ x ∉ ns ∧ ns.length = 40) → Q (.tup [.tup ((aftS w ns x).map .int), .int (telS w ns x)]) M) :
    fs_p_done K [.str "set", .tup (ns.map .int), .tup [.str w.s, .int x]] M Q X := by
  refine ⟨_, _, _, rfl, rfl, by rw [D.da_tup]; exact D.da_ints ns, rfl, fun z => ?_, fun so e => ?_⟩
  · have := isSort_so .set
    rw [show D.str So.set.s = D.str "set" from rfl, z] at this
    cases this
  have e := So.inj (show D.str So.set.s = .str so.s from e)
  subst e
  have h1 : lieB .set (.tup (ns.map .int)) = true := isSetB_iff.mpr ⟨ns, rfl, hs⟩
  have h2 : isDeedB .set (.tup [.str w.s, .int x]) = true := by
    show (decide (arity .set w.s = some (1 : Int)) && (isThing (.int x) && true)) = true
    rw [show isThing (.int x) = true from by show (decide (0 ≤ x) && decide (x ≤ 999999)) = true; rw [decide_eq_true hx.1, decide_eq_true hx.2]; rfl]
    cases w <;> decide +kernel
  refine ⟨fun z => (by rw [h1] at z; cases z), fun _ z => (by rw [h2] at z; cases z), fun _ ns' w' x' e1 hs' e2 hx' => ?_, fun z => (by cases z), fun z => (by cases z)⟩
  have e1 := ints_inj e1
  subst e1
  have e2 := D.tup.inj e2
  have e3 : w' = w := by
    have : w.s = w'.s := D.str.inj (List.cons.inj e2).1
    cases w <;> cases w' <;> first | rfl | exact absurd this (by decide)
  have e4 : x = x' := D.int.inj (List.cons.inj (List.cons.inj e2).2).1
  subst e3 e4
  exact ⟨qx, q⟩
def fs_l_told (K : PySem.W.Frag) : FS := fun ds M Q _ => ∃ (ns : List Int) (w : W5) (x : Int), ds = [.tup (ns.map .int), .tup [.str w.s, .int x]] ∧ SetN ns ∧ 0 ≤ x ∧ x ≤ 999999 ∧ (¬ (w = .put ∧ x ∉ ns ∧ ns.length = 40) → Q (.tup [.tup ((aftS w ns x).map .int), .int (telS w ns x)]) M) ∧
  ((w = .put ∧ x ∉ ns ∧ ns.length = 40) → ∀ M', (∀ b, M b ≠ none → M' b = M b) → Q (.str "many") M')
theorem mo_l_told {K : PySem.W.Frag} : MonoF (fs_l_told K) := fun _ _ _ _ _ _ h _ ⟨ns, w, x, e, c, c2, c3, q, q2⟩ => ⟨ns, w, x, e, c, c2, c3, fun z => h _ _ (q z), fun z M' f => h _ _ (q2 z M' f)⟩
/-- _law_told -/
def g_l_told (K : PySem.W.Frag) : GS := gSeq (gSet 2 (gC .non)) (gSeq (gSet 3 (gC .non)) (gSeq (gTryV 2 3 4 [(He.ga K "NoDeed", true), (He.ga K "NoSort", true), (He.ga K "NoThings", true), (He.ga K "TooMany", true)] (gxP (fs_p_done K) (gCons (gC (.str "set")) (gCons (gV 0) (gCons (gV 1) gNil))))) (gRet (gIf (gB (g2 (goIsN false) (gV 3) (gC .non))) (gV 2) (gCallM (fs_l_word K) (gCons (gV 3) gNil))))))
theorem h_l_told {K : PySem.W.Frag} : ∀ ds M Q X, (fs_l_told K) ds M Q X → ds.length = ([.v, .v] : List AK).length → g_l_told K { nx := fun _ M' => Q .non M', rt := Q } (entry 5 [.v, .v] ds X) M := by
  rintro ds M Q X ⟨ns, w, x, rfl, hs, x0, x1, q, q2⟩ -
  wp_walk using g_l_told
  refine done_setX hs ⟨x0, x1⟩ (fun h => ?_) fun h => ?_
  · refine ⟨true, List.mem_cons_of_mem _ (List.mem_cons_of_mem _ (List.mem_cons_of_mem _ (List.mem_cons_self ..))), fun _ a na => ?_, fun z => by cases z⟩
    wp_walk
    refine ⟨a, "TooMany", "many", rfl, mup_same, by simp [excW], ?_⟩
    wp_walk
    exact q2 h _ fun b hb => mup_ne fun e => hb (by rw [e]; exact na)
  · wp_walk
    exact q h

end LW
namespace LW
open PySem PySem.Spec PySem.W PyProof.Rows L2 DL
local macro_rules | `(tactic| wp_walk) => `(tactic| simp only [gSeq, gSet, gRet, gRetN, gNext, gIfS, gDrop, gOwn, gApp, gExt, gForM, gLcM, gCnt, gTryV, gTryE, gxP, gxM, DL.Fr.mute, gIPut, gFrz, frz, gAsg, gPar, gPar3, gAug, gRaise, gRetM, gSetM, gMPut, gMGet, g1, g2, gC, gV, gVw, gB, gAnd, gOr, gNot, gNotV, gIf, DL.gCons, DL.gNil, DL.gTup, DL.gLst, gFl, gFd, gCa, gLenS, gPart, gNoP, gDisp, gPcons, gPnil, gtN, gtTup, gtCons, gtNil, gYes, gFor, gLc, giS, gCallP, gCallM, gScr, entry, aSls, aSl, DL.Fr.set, OM.d, wipeF, wipeS, keyD, List.length_cons, List.length_nil, List.cons_append, List.nil_append, List.append_nil, List.replicate_succ, List.replicate_zero, List.getElem?_cons_zero, List.getElem?_cons_succ, List.getElem?_nil, List.set_cons_zero, List.set_cons_succ, Nat.reduceAdd, Nat.reduceSub, if_true, if_false, ite_true, ite_false, reduceIte, Bool.false_eq_true, Bool.not_true, Bool.not_false, List.all_cons, List.all_nil, Bool.and_true, true_and, and_true, List.map_cons, List.map_nil, gIdx, ixT_ints, intsOf_map, Int.reduceToNat, Option.some.injEq, exists_eq_left', goAdd_int, goAdd_str, goAdd_tup, goAdd_lst, goAddW_int, goAddW_lst, goPlus_int, goI_int, guI_int, gcI1_int, goIx_lst, gcLen_lst, gcTupleS_lst, gcList_lst, goRevA_lst, goIx_tup, gcLen_tup, gcTupleS_tup, gcList_tup, goRevA_tup, gcTuple_lst, goIx_str, gcLen_str, gcInt_int, gcInt_bl, goMulT_tup, goMulL_lst, goIsB_bl, goIsN_non, isN_int, isN_bl, isN_str, isN_tup, isN_lst, isN_dic, isN_ref, isN_ty, isN_non, gTru_k, truK_non, truK_bl, truK_int, truK_lst, truK_tup, truK_str, gFlist_k, lstK_lst, lstK_tup, gsSl_k, slK_lst, slK_tup, slK_str, itsD_k, itsK_lst, itsK_tup, giZip_k, zipK_lst, zipK_tup, giR1_k, ran1K_nat, ran1K_int, giR2_k, ran2K_int, goLtA_int, goLtA_tup, ok_non, eqv_bl, goEq_int, goNe_int, goEq_bl, goNe_bl, gcMin_ints, gcMinT_ints, gcMax_ints, gcMaxT_ints, intsOf_mapf, blsOf_mapf, gcMin_f, gcMax_f, gcMin_2, gcMax_2, gcSum_ints, gcSum_f, gcBls_f, all_mapid, any_mapid, at_0, at_1, at_2, at_3, at_last, noOwn_nil, noOwn_1, noOwn_2, nof_n, nof_v, nof_b, nof_s, zipD_map, enumD_map, isi_non_int, isi_non_bool, isi_non_str, isi_non_tuple, isi_non_list, isi_non_dict, isi_bl_int, isi_bl_bool, isi_bl_str, isi_bl_tuple, isi_bl_list, isi_bl_dict, isi_int_int, isi_int_bool, isi_int_str, isi_int_tuple, isi_int_list, isi_int_dict, isi_str_int, isi_str_bool, isi_str_str, isi_str_tuple, isi_str_list, isi_str_dict, isi_tup_int, isi_tup_bool, isi_tup_str, isi_tup_tuple, isi_tup_list, isi_tup_dict, isi_lst_int, isi_lst_bool, isi_lst_str, isi_lst_tuple, isi_lst_list, isi_lst_dict, isi_dic_int, isi_dic_bool, isi_dic_str, isi_dic_tuple, isi_dic_list, isi_dic_dict, gcAll, gcAny, goMod, goFdiv, decide_eq_true_eq, Bool.not_eq_true', decide_eq_false_iff_not, ite_not, Bool.and_eq_true, not_false_eq_true, Bool.not_eq_true, List.map_append, Int.zero_add, List.any_cons, List.any_nil, Bool.true_and, Bool.or_false, Bool.xor_false, Bool.false_xor, Bool.true_xor, Bool.not_not, forall_const, Int.toNat_natCast, List.length_map, List.length_append, and_self, ne_eq, List.map_eq_nil_iff, not_true_eq_false, eq_self, goMulI, goSub, goPow, goLe, goGt, goGe, guNeg, gcAbs, goEq_str, goNe_str, goEq_tup, goNe_tup, goEq_lst, goNe_lst, goEq_non, goNe_non, gAndV_k, gOrV_k, gCh_k, blK_bl, ite_bf, reduceCtorEq, Int.reducePow, Int.reduceLT, Int.reduceLE, Int.reduceNeg, sz0, se0, sz1, se1, sz2, se2, sz3, se3, sz4, se4, sz5, se5, sz6, se6, sz7, se7, sz8, se8, sz9, se9, gFld, fldK_ref, gPutF, gPutFM, putFK_ref, gDrf, drfK_ref, gMApp, mlK_ref, gMPop, popK_int, gMIns, ins2K_2, insK_int, gMeth, mthK_ref, gMake, giR3, gFlR1, gFlR2, rg2K_int, gLenSet, lenSetK_lst, lenSetK_tup, gMinD, minDK_lst, giMem, giBA, gMIdx, goTab, gFsort, sortK_lst, sortK_tup])
local macro_rules | `(tactic| wp_walk using $ts,*) => `(tactic| simp only [$[$ts:term],*, gSeq, gSet, gRet, gRetN, gNext, gIfS, gDrop, gOwn, gApp, gExt, gForM, gLcM, gCnt, gTryV, gTryE, gxP, gxM, DL.Fr.mute, gIPut, gFrz, frz, gAsg, gPar, gPar3, gAug, gRaise, gRetM, gSetM, gMPut, gMGet, g1, g2, gC, gV, gVw, gB, gAnd, gOr, gNot, gNotV, gIf, DL.gCons, DL.gNil, DL.gTup, DL.gLst, gFl, gFd, gCa, gLenS, gPart, gNoP, gDisp, gPcons, gPnil, gtN, gtTup, gtCons, gtNil, gYes, gFor, gLc, giS, gCallP, gCallM, gScr, entry, aSls, aSl, DL.Fr.set, OM.d, wipeF, wipeS, keyD, List.length_cons, List.length_nil, List.cons_append, List.nil_append, List.append_nil, List.replicate_succ, List.replicate_zero, List.getElem?_cons_zero, List.getElem?_cons_succ, List.getElem?_nil, List.set_cons_zero, List.set_cons_succ, Nat.reduceAdd, Nat.reduceSub, if_true, if_false, ite_true, ite_false, reduceIte, Bool.false_eq_true, Bool.not_true, Bool.not_false, List.all_cons, List.all_nil, Bool.and_true, true_and, and_true, List.map_cons, List.map_nil, gIdx, ixT_ints, intsOf_map, Int.reduceToNat, Option.some.injEq, exists_eq_left', goAdd_int, goAdd_str, goAdd_tup, goAdd_lst, goAddW_int, goAddW_lst, goPlus_int, goI_int, guI_int, gcI1_int, goIx_lst, gcLen_lst, gcTupleS_lst, gcList_lst, goRevA_lst, goIx_tup, gcLen_tup, gcTupleS_tup, gcList_tup, goRevA_tup, gcTuple_lst, goIx_str, gcLen_str, gcInt_int, gcInt_bl, goMulT_tup, goMulL_lst, goIsB_bl, goIsN_non, isN_int, isN_bl, isN_str, isN_tup, isN_lst, isN_dic, isN_ref, isN_ty, isN_non, gTru_k, truK_non, truK_bl, truK_int, truK_lst, truK_tup, truK_str, gFlist_k, lstK_lst, lstK_tup, gsSl_k, slK_lst, slK_tup, slK_str, itsD_k, itsK_lst, itsK_tup, giZip_k, zipK_lst, zipK_tup, giR1_k, ran1K_nat, ran1K_int, giR2_k, ran2K_int, goLtA_int, goLtA_tup, ok_non, eqv_bl, goEq_int, goNe_int, goEq_bl, goNe_bl, gcMin_ints, gcMinT_ints, gcMax_ints, gcMaxT_ints, intsOf_mapf, blsOf_mapf, gcMin_f, gcMax_f, gcMin_2, gcMax_2, gcSum_ints, gcSum_f, gcBls_f, all_mapid, any_mapid, at_0, at_1, at_2, at_3, at_last, noOwn_nil, noOwn_1, noOwn_2, nof_n, nof_v, nof_b, nof_s, zipD_map, enumD_map, isi_non_int, isi_non_bool, isi_non_str, isi_non_tuple, isi_non_list, isi_non_dict, isi_bl_int, isi_bl_bool, isi_bl_str, isi_bl_tuple, isi_bl_list, isi_bl_dict, isi_int_int, isi_int_bool, isi_int_str, isi_int_tuple, isi_int_list, isi_int_dict, isi_str_int, isi_str_bool, isi_str_str, isi_str_tuple, isi_str_list, isi_str_dict, isi_tup_int, isi_tup_bool, isi_tup_str, isi_tup_tuple, isi_tup_list, isi_tup_dict, isi_lst_int, isi_lst_bool, isi_lst_str, isi_lst_tuple, isi_lst_list, isi_lst_dict, isi_dic_int, isi_dic_bool, isi_dic_str, isi_dic_tuple, isi_dic_list, isi_dic_dict, gcAll, gcAny, goMod, goFdiv, decide_eq_true_eq, Bool.not_eq_true', decide_eq_false_iff_not, ite_not, Bool.and_eq_true, not_false_eq_true, Bool.not_eq_true, List.map_append, Int.zero_add, List.any_cons, List.any_nil, Bool.true_and, Bool.or_false, Bool.xor_false, Bool.false_xor, Bool.true_xor, Bool.not_not, forall_const, Int.toNat_natCast, List.length_map, List.length_append, and_self, ne_eq, List.map_eq_nil_iff, not_true_eq_false, eq_self, goMulI, goSub, goPow, goLe, goGt, goGe, guNeg, gcAbs, goEq_str, goNe_str, goEq_tup, goNe_tup, goEq_lst, goNe_lst, goEq_non, goNe_non, gAndV_k, gOrV_k, gCh_k, blK_bl, ite_bf, reduceCtorEq, Int.reducePow, Int.reduceLT, Int.reduceLE, Int.reduceNeg, sz0, se0, sz1, se1, sz2, se2, sz3, se3, sz4, se4, sz5, se5, sz6, se6, sz7, se7, sz8, se8, sz9, se9, gFld, fldK_ref, gPutF, gPutFM, putFK_ref, gDrf, drfK_ref, gMApp, mlK_ref, gMPop, popK_int, gMIns, ins2K_2, insK_int, gMeth, mthK_ref, gMake, giR3, gFlR1, gFlR2, rg2K_int, gLenSet, lenSetK_lst, lenSetK_tup, gMinD, minDK_lst, giMem, giBA, gMIdx, goTab, gFsort, sortK_lst, sortK_tup])
variable {K : PySem.W.Frag}
def fs_l_set (K : PySem.W.Frag) : FS := DrawF (fun r => ∃ b : Int, r = [.int b] ∧ 0 ≤ b ∧ b ≤ 40) fun _ d => ∃ ns : List Int, d = .tup (ns.map .int) ∧ SetN ns
theorem mo_l_set {K : PySem.W.Frag} : MonoF (fs_l_set K) := drawF_mono
/-- _law_set -/
def lp1_l_set (K : PySem.W.Frag) : GS := gSeq (gSet 5 (gCallM (fs_l_thing K) (gCons (gV 0) (gCons (gV 2) gNil)))) (gIfS (gB (g2 (goIn true) (gV 5) (gVw 3))) (gApp 3 (gV 5)) (gNext))
def af1_l_set (K : PySem.W.Frag) : GS := gFrz 3 (gRet (gCa gcTupleS (gCons (gV 3) gNil)))
def g_l_set (K : PySem.W.Frag) : GS := gSeq (gSet 2 (gCallM (fs_l_take K) (gCons (gV 0) (gCons (gC (.int 5)) gNil)))) (gSeq (gOwn 3 (gFl (gNil))) (gSeq (gFor (giR1 (gCons (gCallM (fs_l_size K) (gCons (gV 0) (gCons (gV 1) gNil))) gNil)) (gtN 4) (lp1_l_set K)) (af1_l_set K)))
theorem h_l_set {K : PySem.W.Frag} : ∀ ds M Q X, (fs_l_set K) ds M Q X → ds.length = ([.v, .v] : List AK).length → g_l_set K { nx := fun _ M' => Q .non M', rt := Q } (entry 6 [.v, .v] ds X) M := by
  rintro ds M Q X ⟨a, r, rfl, ms, ⟨b, rfl, b0, b1⟩, q⟩ -
  wp_walk using g_l_set
  refine take_of (K := K) ms (by omega) (by omega) fun k k0 k1 => ?_
  wp_walk
  refine size_dr (K := K) ms (by omega) (by omega) fun m m0 m1 => ?_
  obtain ⟨m, rfl⟩ := Int.eq_ofNat_of_zero_le m0
  wp_walk
  refine ⟨by omega, ?_⟩
  refine loop_mp (enc := fun (i : Nat) => D.int (0 + i)) (fun (is : List Nat) r M' => M' = M ∧ ∃ (ns : List Int) (x4 x5 : Sl), ns.length + is.length ≤ 40 ∧ (∀ n ∈ ns, 0 ≤ n ∧ n ≤ 999999) ∧ ns.Nodup ∧ r = ⟨[.v (.ref a), .v (.int b), .v (.int k), .o (.lst (ns.map .int)), x4, x5], X⟩) ?_ ?_ (List.range m) _ _ ⟨rfl, [], _, _, by simp; omega, by simp, List.nodup_nil, rfl⟩
  · rintro r M' ⟨rfl, ns, x4, x5, hl, hr, hn, rfl⟩
    wp_walk using af1_l_set
    exact q _ ⟨ns, rfl, ⟨by simpa using hl, hr, hn⟩⟩
  · rintro i is r M' ⟨rfl, ns, x4, x5, hl, hr, hn, rfl⟩ N hN
    rw [List.length_cons] at hl
    wp_walk using lp1_l_set
    refine thing_dr (K := K) ms k0 fun x x0 x1 => ?_
    wp_walk using goIn_lstI
    by_cases h : x ∈ ns
    · wp_walk using h
      exact hN _ _ ⟨rfl, ns, _, _, by omega, hr, hn, rfl⟩
    · wp_walk using h
      refine ⟨size_lt (by omega), ?_⟩
      rw [show ns.map D.int ++ [.int x] = (ns ++ [x]).map D.int by rw [List.map_append]; rfl]
      refine hN _ _ ⟨rfl, ns ++ [x], _, _, by rw [List.length_append, List.length_singleton]; omega, fun n hn' => ?_, ?_, rfl⟩
      · rcases List.mem_append.mp hn' with h1 | h1
        · exact hr n h1
        · rw [List.mem_singleton.mp h1]; exact ⟨x0, x1⟩
      · refine List.nodup_append.mpr ⟨hn, by simp, fun z hz u hu e => h ?_⟩
        rw [List.mem_singleton.mp hu] at e
        rw [← e]; exact hz

end LW
namespace LW
open PySem PySem.Spec PySem.W PyProof.Rows L2 DL
local macro_rules | `(tactic| wp_walk) => `(tactic| simp only [gSeq, gSet, gRet, gRetN, gNext, gIfS, gDrop, gOwn, gApp, gExt, gForM, gLcM, gCnt, gTryV, gTryE, gxP, gxM, DL.Fr.mute, gIPut, gFrz, frz, gAsg, gPar, gPar3, gAug, gRaise, gRetM, gSetM, gMPut, gMGet, g1, g2, gC, gV, gVw, gB, gAnd, gOr, gNot, gNotV, gIf, DL.gCons, DL.gNil, DL.gTup, DL.gLst, gFl, gFd, gCa, gLenS, gPart, gNoP, gDisp, gPcons, gPnil, gtN, gtTup, gtCons, gtNil, gYes, gFor, gLc, giS, gCallP, gCallM, gScr, entry, aSls, aSl, DL.Fr.set, OM.d, wipeF, wipeS, keyD, List.length_cons, List.length_nil, List.cons_append, List.nil_append, List.append_nil, List.replicate_succ, List.replicate_zero, List.getElem?_cons_zero, List.getElem?_cons_succ, List.getElem?_nil, List.set_cons_zero, List.set_cons_succ, Nat.reduceAdd, Nat.reduceSub, if_true, if_false, ite_true, ite_false, reduceIte, Bool.false_eq_true, Bool.not_true, Bool.not_false, List.all_cons, List.all_nil, Bool.and_true, true_and, and_true, List.map_cons, List.map_nil, gIdx, ixT_ints, intsOf_map, Int.reduceToNat, Option.some.injEq, exists_eq_left', goAdd_int, goAdd_str, goAdd_tup, goAdd_lst, goAddW_int, goAddW_lst, goPlus_int, goI_int, guI_int, gcI1_int, goIx_lst, gcLen_lst, gcTupleS_lst, gcList_lst, goRevA_lst, goIx_tup, gcLen_tup, gcTupleS_tup, gcList_tup, goRevA_tup, gcTuple_lst, goIx_str, gcLen_str, gcInt_int, gcInt_bl, goMulT_tup, goMulL_lst, goIsB_bl, goIsN_non, isN_int, isN_bl, isN_str, isN_tup, isN_lst, isN_dic, isN_ref, isN_ty, isN_non, gTru_k, truK_non, truK_bl, truK_int, truK_lst, truK_tup, truK_str, gFlist_k, lstK_lst, lstK_tup, gsSl_k, slK_lst, slK_tup, slK_str, itsD_k, itsK_lst, itsK_tup, giZip_k, zipK_lst, zipK_tup, giR1_k, ran1K_nat, ran1K_int, giR2_k, ran2K_int, goLtA_int, goLtA_tup, ok_non, eqv_bl, goEq_int, goNe_int, goEq_bl, goNe_bl, gcMin_ints, gcMinT_ints, gcMax_ints, gcMaxT_ints, intsOf_mapf, blsOf_mapf, gcMin_f, gcMax_f, gcMin_2, gcMax_2, gcSum_ints, gcSum_f, gcBls_f, all_mapid, any_mapid, at_0, at_1, at_2, at_3, at_last, noOwn_nil, noOwn_1, noOwn_2, nof_n, nof_v, nof_b, nof_s, zipD_map, enumD_map, isi_non_int, isi_non_bool, isi_non_str, isi_non_tuple, isi_non_list, isi_non_dict, isi_bl_int, isi_bl_bool, isi_bl_str, isi_bl_tuple, isi_bl_list, isi_bl_dict, isi_int_int, isi_int_bool, isi_int_str, isi_int_tuple, isi_int_list, isi_int_dict, isi_str_int, isi_str_bool, isi_str_str, isi_str_tuple, isi_str_list, isi_str_dict, isi_tup_int, isi_tup_bool, isi_tup_str, isi_tup_tuple, isi_tup_list, isi_tup_dict, isi_lst_int, isi_lst_bool, isi_lst_str, isi_lst_tuple, isi_lst_list, isi_lst_dict, isi_dic_int, isi_dic_bool, isi_dic_str, isi_dic_tuple, isi_dic_list, isi_dic_dict, gcAll, gcAny, goMod, goFdiv, decide_eq_true_eq, Bool.not_eq_true', decide_eq_false_iff_not, ite_not, Bool.and_eq_true, not_false_eq_true, Bool.not_eq_true, List.map_append, Int.zero_add, List.any_cons, List.any_nil, Bool.true_and, Bool.or_false, Bool.xor_false, Bool.false_xor, Bool.true_xor, Bool.not_not, forall_const, Int.toNat_natCast, List.length_map, List.length_append, and_self, ne_eq, List.map_eq_nil_iff, not_true_eq_false, eq_self, goMulI, goSub, goPow, goLe, goGt, goGe, guNeg, gcAbs, goEq_str, goNe_str, goEq_tup, goNe_tup, goEq_lst, goNe_lst, goEq_non, goNe_non, gAndV_k, gOrV_k, gCh_k, blK_bl, ite_bf, reduceCtorEq, Int.reducePow, Int.reduceLT, Int.reduceLE, Int.reduceNeg, sz0, se0, sz1, se1, sz2, se2, sz3, se3, sz4, se4, sz5, se5, sz6, se6, sz7, se7, sz8, se8, sz9, se9, gFld, fldK_ref, gPutF, gPutFM, putFK_ref, gDrf, drfK_ref, gMApp, mlK_ref, gMPop, popK_int, gMIns, ins2K_2, insK_int, gMeth, mthK_ref, gMake, giR3, gFlR1, gFlR2, rg2K_int, gLenSet, lenSetK_lst, lenSetK_tup, gMinD, minDK_lst, giMem, giBA, gMIdx, goTab, gFsort, sortK_lst, sortK_tup])
local macro_rules | `(tactic| wp_walk using $ts,*) => `(tactic| simp only [$[$ts:term],*, gSeq, gSet, gRet, gRetN, gNext, gIfS, gDrop, gOwn, gApp, gExt, gForM, gLcM, gCnt, gTryV, gTryE, gxP, gxM, DL.Fr.mute, gIPut, gFrz, frz, gAsg, gPar, gPar3, gAug, gRaise, gRetM, gSetM, gMPut, gMGet, g1, g2, gC, gV, gVw, gB, gAnd, gOr, gNot, gNotV, gIf, DL.gCons, DL.gNil, DL.gTup, DL.gLst, gFl, gFd, gCa, gLenS, gPart, gNoP, gDisp, gPcons, gPnil, gtN, gtTup, gtCons, gtNil, gYes, gFor, gLc, giS, gCallP, gCallM, gScr, entry, aSls, aSl, DL.Fr.set, OM.d, wipeF, wipeS, keyD, List.length_cons, List.length_nil, List.cons_append, List.nil_append, List.append_nil, List.replicate_succ, List.replicate_zero, List.getElem?_cons_zero, List.getElem?_cons_succ, List.getElem?_nil, List.set_cons_zero, List.set_cons_succ, Nat.reduceAdd, Nat.reduceSub, if_true, if_false, ite_true, ite_false, reduceIte, Bool.false_eq_true, Bool.not_true, Bool.not_false, List.all_cons, List.all_nil, Bool.and_true, true_and, and_true, List.map_cons, List.map_nil, gIdx, ixT_ints, intsOf_map, Int.reduceToNat, Option.some.injEq, exists_eq_left', goAdd_int, goAdd_str, goAdd_tup, goAdd_lst, goAddW_int, goAddW_lst, goPlus_int, goI_int, guI_int, gcI1_int, goIx_lst, gcLen_lst, gcTupleS_lst, gcList_lst, goRevA_lst, goIx_tup, gcLen_tup, gcTupleS_tup, gcList_tup, goRevA_tup, gcTuple_lst, goIx_str, gcLen_str, gcInt_int, gcInt_bl, goMulT_tup, goMulL_lst, goIsB_bl, goIsN_non, isN_int, isN_bl, isN_str, isN_tup, isN_lst, isN_dic, isN_ref, isN_ty, isN_non, gTru_k, truK_non, truK_bl, truK_int, truK_lst, truK_tup, truK_str, gFlist_k, lstK_lst, lstK_tup, gsSl_k, slK_lst, slK_tup, slK_str, itsD_k, itsK_lst, itsK_tup, giZip_k, zipK_lst, zipK_tup, giR1_k, ran1K_nat, ran1K_int, giR2_k, ran2K_int, goLtA_int, goLtA_tup, ok_non, eqv_bl, goEq_int, goNe_int, goEq_bl, goNe_bl, gcMin_ints, gcMinT_ints, gcMax_ints, gcMaxT_ints, intsOf_mapf, blsOf_mapf, gcMin_f, gcMax_f, gcMin_2, gcMax_2, gcSum_ints, gcSum_f, gcBls_f, all_mapid, any_mapid, at_0, at_1, at_2, at_3, at_last, noOwn_nil, noOwn_1, noOwn_2, nof_n, nof_v, nof_b, nof_s, zipD_map, enumD_map, isi_non_int, isi_non_bool, isi_non_str, isi_non_tuple, isi_non_list, isi_non_dict, isi_bl_int, isi_bl_bool, isi_bl_str, isi_bl_tuple, isi_bl_list, isi_bl_dict, isi_int_int, isi_int_bool, isi_int_str, isi_int_tuple, isi_int_list, isi_int_dict, isi_str_int, isi_str_bool, isi_str_str, isi_str_tuple, isi_str_list, isi_str_dict, isi_tup_int, isi_tup_bool, isi_tup_str, isi_tup_tuple, isi_tup_list, isi_tup_dict, isi_lst_int, isi_lst_bool, isi_lst_str, isi_lst_tuple, isi_lst_list, isi_lst_dict, isi_dic_int, isi_dic_bool, isi_dic_str, isi_dic_tuple, isi_dic_list, isi_dic_dict, gcAll, gcAny, goMod, goFdiv, decide_eq_true_eq, Bool.not_eq_true', decide_eq_false_iff_not, ite_not, Bool.and_eq_true, not_false_eq_true, Bool.not_eq_true, List.map_append, Int.zero_add, List.any_cons, List.any_nil, Bool.true_and, Bool.or_false, Bool.xor_false, Bool.false_xor, Bool.true_xor, Bool.not_not, forall_const, Int.toNat_natCast, List.length_map, List.length_append, and_self, ne_eq, List.map_eq_nil_iff, not_true_eq_false, eq_self, goMulI, goSub, goPow, goLe, goGt, goGe, guNeg, gcAbs, goEq_str, goNe_str, goEq_tup, goNe_tup, goEq_lst, goNe_lst, goEq_non, goNe_non, gAndV_k, gOrV_k, gCh_k, blK_bl, ite_bf, reduceCtorEq, Int.reducePow, Int.reduceLT, Int.reduceLE, Int.reduceNeg, sz0, se0, sz1, se1, sz2, se2, sz3, se3, sz4, se4, sz5, se5, sz6, se6, sz7, se7, sz8, se8, sz9, se9, gFld, fldK_ref, gPutF, gPutFM, putFK_ref, gDrf, drfK_ref, gMApp, mlK_ref, gMPop, popK_int, gMIns, ins2K_2, insK_int, gMeth, mthK_ref, gMake, giR3, gFlR1, gFlR2, rg2K_int, gLenSet, lenSetK_lst, lenSetK_tup, gMinD, minDK_lst, giMem, giBA, gMIdx, goTab, gFsort, sortK_lst, sortK_tup])
/-- a comprehension whose turns all give the same; memory may change as I allows -/
theorem lc_rep {gt : GG} {ge : GE} {r : DL.Fr} {Q : List D → Mem → Prop} (I : Mem → Prop) (z : D) (h : ∀ d M, I M → ∀ Q' : D → Mem → Prop, (∀ M', I M' → Q' z M') → gt d r M fun r1 M1 => ge r1 M1 Q') :
    ∀ (ds acc : List D) (M : Mem), I M → acc.length + ds.length ≤ sizeLine → (∀ M', I M' → Q (acc ++ List.replicate ds.length z) M') → lcD gt gYes ge r ds acc M Q
  | [], acc, M, i, _, q => by
    have := q M i
    rw [List.length_nil, List.replicate_zero, List.append_nil] at this
    exact this
  | d :: ds, acc, M, i, hz, q => by
    have hz' : acc.length + (ds.length + 1) ≤ sizeLine := hz
    refine h d M i _ fun M' i' => ⟨by omega, lc_rep I z h ds (acc ++ [z]) M' i' ?_ fun M2 i2 => ?_⟩
    · rw [List.length_append, List.length_cons, List.length_nil]; omega
    · rw [List.append_assoc]
      exact q M2 i2
theorem eqv_ok {d : D} (h : d.ok = true) : d.eqv d = true := PySem.SeqAt.eqv_refl d.py (PySem.SeqAt.canLay_of_shaped (ok_and h).2)

end LW
namespace LW
open PySem PySem.Spec PySem.W PyProof.Rows L2 DL
local macro_rules | `(tactic| wp_walk) => `(tactic| simp only [gSeq, gSet, gRet, gRetN, gNext, gIfS, gDrop, gOwn, gApp, gExt, gForM, gLcM, gCnt, gTryV, gTryE, gxP, gxM, DL.Fr.mute, gIPut, gFrz, frz, gAsg, gPar, gPar3, gAug, gRaise, gRetM, gSetM, gMPut, gMGet, g1, g2, gC, gV, gVw, gB, gAnd, gOr, gNot, gNotV, gIf, DL.gCons, DL.gNil, DL.gTup, DL.gLst, gFl, gFd, gCa, gLenS, gPart, gNoP, gDisp, gPcons, gPnil, gtN, gtTup, gtCons, gtNil, gYes, gFor, gLc, giS, gCallP, gCallM, gScr, entry, aSls, aSl, DL.Fr.set, OM.d, wipeF, wipeS, keyD, List.length_cons, List.length_nil, List.cons_append, List.nil_append, List.append_nil, List.replicate_succ, List.replicate_zero, List.getElem?_cons_zero, List.getElem?_cons_succ, List.getElem?_nil, List.set_cons_zero, List.set_cons_succ, Nat.reduceAdd, Nat.reduceSub, if_true, if_false, ite_true, ite_false, reduceIte, Bool.false_eq_true, Bool.not_true, Bool.not_false, List.all_cons, List.all_nil, Bool.and_true, true_and, and_true, List.map_cons, List.map_nil, gIdx, ixT_ints, intsOf_map, Int.reduceToNat, Option.some.injEq, exists_eq_left', goAdd_int, goAdd_str, goAdd_tup, goAdd_lst, goAddW_int, goAddW_lst, goPlus_int, goI_int, guI_int, gcI1_int, goIx_lst, gcLen_lst, gcTupleS_lst, gcList_lst, goRevA_lst, goIx_tup, gcLen_tup, gcTupleS_tup, gcList_tup, goRevA_tup, gcTuple_lst, goIx_str, gcLen_str, gcInt_int, gcInt_bl, goMulT_tup, goMulL_lst, goIsB_bl, goIsN_non, isN_int, isN_bl, isN_str, isN_tup, isN_lst, isN_dic, isN_ref, isN_ty, isN_non, gTru_k, truK_non, truK_bl, truK_int, truK_lst, truK_tup, truK_str, gFlist_k, lstK_lst, lstK_tup, gsSl_k, slK_lst, slK_tup, slK_str, itsD_k, itsK_lst, itsK_tup, giZip_k, zipK_lst, zipK_tup, giR1_k, ran1K_nat, ran1K_int, giR2_k, ran2K_int, goLtA_int, goLtA_tup, ok_non, eqv_bl, goEq_int, goNe_int, goEq_bl, goNe_bl, gcMin_ints, gcMinT_ints, gcMax_ints, gcMaxT_ints, intsOf_mapf, blsOf_mapf, gcMin_f, gcMax_f, gcMin_2, gcMax_2, gcSum_ints, gcSum_f, gcBls_f, all_mapid, any_mapid, at_0, at_1, at_2, at_3, at_last, noOwn_nil, noOwn_1, noOwn_2, nof_n, nof_v, nof_b, nof_s, zipD_map, enumD_map, isi_non_int, isi_non_bool, isi_non_str, isi_non_tuple, isi_non_list, isi_non_dict, isi_bl_int, isi_bl_bool, isi_bl_str, isi_bl_tuple, isi_bl_list, isi_bl_dict, isi_int_int, isi_int_bool, isi_int_str, isi_int_tuple, isi_int_list, isi_int_dict, isi_str_int, isi_str_bool, isi_str_str, isi_str_tuple, isi_str_list, isi_str_dict, isi_tup_int, isi_tup_bool, isi_tup_str, isi_tup_tuple, isi_tup_list, isi_tup_dict, isi_lst_int, isi_lst_bool, isi_lst_str, isi_lst_tuple, isi_lst_list, isi_lst_dict, isi_dic_int, isi_dic_bool, isi_dic_str, isi_dic_tuple, isi_dic_list, isi_dic_dict, gcAll, gcAny, goMod, goFdiv, decide_eq_true_eq, Bool.not_eq_true', decide_eq_false_iff_not, ite_not, Bool.and_eq_true, not_false_eq_true, Bool.not_eq_true, List.map_append, Int.zero_add, List.any_cons, List.any_nil, Bool.true_and, Bool.or_false, Bool.xor_false, Bool.false_xor, Bool.true_xor, Bool.not_not, forall_const, Int.toNat_natCast, List.length_map, List.length_append, and_self, ne_eq, List.map_eq_nil_iff, not_true_eq_false, eq_self, goMulI, goSub, goPow, goLe, goGt, goGe, guNeg, gcAbs, goEq_str, goNe_str, goEq_tup, goNe_tup, goEq_lst, goNe_lst, goEq_non, goNe_non, gAndV_k, gOrV_k, gCh_k, blK_bl, ite_bf, reduceCtorEq, Int.reducePow, Int.reduceLT, Int.reduceLE, Int.reduceNeg, sz0, se0, sz1, se1, sz2, se2, sz3, se3, sz4, se4, sz5, se5, sz6, se6, sz7, se7, sz8, se8, sz9, se9, gFld, fldK_ref, gPutF, gPutFM, putFK_ref, gDrf, drfK_ref, gMApp, mlK_ref, gMPop, popK_int, gMIns, ins2K_2, insK_int, gMeth, mthK_ref, gMake, giR3, gFlR1, gFlR2, rg2K_int, gLenSet, lenSetK_lst, lenSetK_tup, gMinD, minDK_lst, giMem, giBA, gMIdx, goTab, gFsort, sortK_lst, sortK_tup])
local macro_rules | `(tactic| wp_walk using $ts,*) => `(tactic| simp only [$[$ts:term],*, gSeq, gSet, gRet, gRetN, gNext, gIfS, gDrop, gOwn, gApp, gExt, gForM, gLcM, gCnt, gTryV, gTryE, gxP, gxM, DL.Fr.mute, gIPut, gFrz, frz, gAsg, gPar, gPar3, gAug, gRaise, gRetM, gSetM, gMPut, gMGet, g1, g2, gC, gV, gVw, gB, gAnd, gOr, gNot, gNotV, gIf, DL.gCons, DL.gNil, DL.gTup, DL.gLst, gFl, gFd, gCa, gLenS, gPart, gNoP, gDisp, gPcons, gPnil, gtN, gtTup, gtCons, gtNil, gYes, gFor, gLc, giS, gCallP, gCallM, gScr, entry, aSls, aSl, DL.Fr.set, OM.d, wipeF, wipeS, keyD, List.length_cons, List.length_nil, List.cons_append, List.nil_append, List.append_nil, List.replicate_succ, List.replicate_zero, List.getElem?_cons_zero, List.getElem?_cons_succ, List.getElem?_nil, List.set_cons_zero, List.set_cons_succ, Nat.reduceAdd, Nat.reduceSub, if_true, if_false, ite_true, ite_false, reduceIte, Bool.false_eq_true, Bool.not_true, Bool.not_false, List.all_cons, List.all_nil, Bool.and_true, true_and, and_true, List.map_cons, List.map_nil, gIdx, ixT_ints, intsOf_map, Int.reduceToNat, Option.some.injEq, exists_eq_left', goAdd_int, goAdd_str, goAdd_tup, goAdd_lst, goAddW_int, goAddW_lst, goPlus_int, goI_int, guI_int, gcI1_int, goIx_lst, gcLen_lst, gcTupleS_lst, gcList_lst, goRevA_lst, goIx_tup, gcLen_tup, gcTupleS_tup, gcList_tup, goRevA_tup, gcTuple_lst, goIx_str, gcLen_str, gcInt_int, gcInt_bl, goMulT_tup, goMulL_lst, goIsB_bl, goIsN_non, isN_int, isN_bl, isN_str, isN_tup, isN_lst, isN_dic, isN_ref, isN_ty, isN_non, gTru_k, truK_non, truK_bl, truK_int, truK_lst, truK_tup, truK_str, gFlist_k, lstK_lst, lstK_tup, gsSl_k, slK_lst, slK_tup, slK_str, itsD_k, itsK_lst, itsK_tup, giZip_k, zipK_lst, zipK_tup, giR1_k, ran1K_nat, ran1K_int, giR2_k, ran2K_int, goLtA_int, goLtA_tup, ok_non, eqv_bl, goEq_int, goNe_int, goEq_bl, goNe_bl, gcMin_ints, gcMinT_ints, gcMax_ints, gcMaxT_ints, intsOf_mapf, blsOf_mapf, gcMin_f, gcMax_f, gcMin_2, gcMax_2, gcSum_ints, gcSum_f, gcBls_f, all_mapid, any_mapid, at_0, at_1, at_2, at_3, at_last, noOwn_nil, noOwn_1, noOwn_2, nof_n, nof_v, nof_b, nof_s, zipD_map, enumD_map, isi_non_int, isi_non_bool, isi_non_str, isi_non_tuple, isi_non_list, isi_non_dict, isi_bl_int, isi_bl_bool, isi_bl_str, isi_bl_tuple, isi_bl_list, isi_bl_dict, isi_int_int, isi_int_bool, isi_int_str, isi_int_tuple, isi_int_list, isi_int_dict, isi_str_int, isi_str_bool, isi_str_str, isi_str_tuple, isi_str_list, isi_str_dict, isi_tup_int, isi_tup_bool, isi_tup_str, isi_tup_tuple, isi_tup_list, isi_tup_dict, isi_lst_int, isi_lst_bool, isi_lst_str, isi_lst_tuple, isi_lst_list, isi_lst_dict, isi_dic_int, isi_dic_bool, isi_dic_str, isi_dic_tuple, isi_dic_list, isi_dic_dict, gcAll, gcAny, goMod, goFdiv, decide_eq_true_eq, Bool.not_eq_true', decide_eq_false_iff_not, ite_not, Bool.and_eq_true, not_false_eq_true, Bool.not_eq_true, List.map_append, Int.zero_add, List.any_cons, List.any_nil, Bool.true_and, Bool.or_false, Bool.xor_false, Bool.false_xor, Bool.true_xor, Bool.not_not, forall_const, Int.toNat_natCast, List.length_map, List.length_append, and_self, ne_eq, List.map_eq_nil_iff, not_true_eq_false, eq_self, goMulI, goSub, goPow, goLe, goGt, goGe, guNeg, gcAbs, goEq_str, goNe_str, goEq_tup, goNe_tup, goEq_lst, goNe_lst, goEq_non, goNe_non, gAndV_k, gOrV_k, gCh_k, blK_bl, ite_bf, reduceCtorEq, Int.reducePow, Int.reduceLT, Int.reduceLE, Int.reduceNeg, sz0, se0, sz1, se1, sz2, se2, sz3, se3, sz4, se4, sz5, se5, sz6, se6, sz7, se7, sz8, se8, sz9, se9, gFld, fldK_ref, gPutF, gPutFM, putFK_ref, gDrf, drfK_ref, gMApp, mlK_ref, gMPop, popK_int, gMIns, ins2K_2, insK_int, gMeth, mthK_ref, gMake, giR3, gFlR1, gFlR2, rg2K_int, gLenSet, lenSetK_lst, lenSetK_tup, gMinD, minDK_lst, giMem, giBA, gMIdx, goTab, gFsort, sortK_lst, sortK_tup])
variable {K : PySem.W.Frag}
theorem full_set_dr {M : Mem} {a : Addr} {n : Int} {Q : D → Mem → Prop} {X : Addr → Mem → Prop} (ms : M a = some .st) (h0 : 0 ≤ n) (h1 : n ≤ 40) (h : ∀ ns : List Int, SetN ns → (ns.length : Int) = n → Q (.tup (ns.map .int)) M) : fs_l_full K [.ref a, .str "set", .int n] M Q X := by
  obtain ⟨m, rfl⟩ := Int.eq_ofNat_of_zero_le h0
  refine ⟨a, _, rfl, ms, ⟨.set, m, rfl, by omega⟩, fun d ⟨so, k, e, e1, e2⟩ => ?_⟩
  have f1 := So.inj (show D.str So.set.s = .str so.s from (List.cons.inj e).1)
  have f2 : ((m : Nat) : Int) = ((k : Nat) : Int) := D.int.inj (List.cons.inj (List.cons.inj e).2).1
  subst f1
  obtain ⟨ns, rfl, hl, hr, hn⟩ := e1 (fun z => by cases z)
  exact h ns ⟨by omega, hr, hn⟩ (by omega)
theorem set_drB {M : Mem} {a : Addr} {b : Int} {Q : D → Mem → Prop} {X : Addr → Mem → Prop} (ms : M a = some .st) (h0 : 0 ≤ b) (h1 : b ≤ 40) (h : ∀ ns : List Int, SetN ns → Q (.tup (ns.map .int)) M) : fs_l_set K [.ref a, .int b] M Q X :=
  ⟨a, _, rfl, ms, ⟨b, rfl, h0, h1⟩, fun d ⟨ns, e, hs⟩ => by subst e; exact h ns hs⟩

end LW
namespace LW
open PySem PySem.Spec PySem.W PyProof.Rows L2 DL
local macro_rules | `(tactic| wp_walk) => `(tactic| simp only [gSeq, gSet, gRet, gRetN, gNext, gIfS, gDrop, gOwn, gApp, gExt, gForM, gLcM, gCnt, gTryV, gTryE, gxP, gxM, DL.Fr.mute, gIPut, gFrz, frz, gAsg, gPar, gPar3, gAug, gRaise, gRetM, gSetM, gMPut, gMGet, g1, g2, gC, gV, gVw, gB, gAnd, gOr, gNot, gNotV, gIf, DL.gCons, DL.gNil, DL.gTup, DL.gLst, gFl, gFd, gCa, gLenS, gPart, gNoP, gDisp, gPcons, gPnil, gtN, gtTup, gtCons, gtNil, gYes, gFor, gLc, giS, gCallP, gCallM, gScr, entry, aSls, aSl, DL.Fr.set, OM.d, wipeF, wipeS, keyD, List.length_cons, List.length_nil, List.cons_append, List.nil_append, List.append_nil, List.replicate_succ, List.replicate_zero, List.getElem?_cons_zero, List.getElem?_cons_succ, List.getElem?_nil, List.set_cons_zero, List.set_cons_succ, Nat.reduceAdd, Nat.reduceSub, if_true, if_false, ite_true, ite_false, reduceIte, Bool.false_eq_true, Bool.not_true, Bool.not_false, List.all_cons, List.all_nil, Bool.and_true, true_and, and_true, List.map_cons, List.map_nil, gIdx, ixT_ints, intsOf_map, Int.reduceToNat, Option.some.injEq, exists_eq_left', goAdd_int, goAdd_str, goAdd_tup, goAdd_lst, goAddW_int, goAddW_lst, goPlus_int, goI_int, guI_int, gcI1_int, goIx_lst, gcLen_lst, gcTupleS_lst, gcList_lst, goRevA_lst, goIx_tup, gcLen_tup, gcTupleS_tup, gcList_tup, goRevA_tup, gcTuple_lst, goIx_str, gcLen_str, gcInt_int, gcInt_bl, goMulT_tup, goMulL_lst, goIsB_bl, goIsN_non, isN_int, isN_bl, isN_str, isN_tup, isN_lst, isN_dic, isN_ref, isN_ty, isN_non, gTru_k, truK_non, truK_bl, truK_int, truK_lst, truK_tup, truK_str, gFlist_k, lstK_lst, lstK_tup, gsSl_k, slK_lst, slK_tup, slK_str, itsD_k, itsK_lst, itsK_tup, giZip_k, zipK_lst, zipK_tup, giR1_k, ran1K_nat, ran1K_int, giR2_k, ran2K_int, goLtA_int, goLtA_tup, ok_non, eqv_bl, goEq_int, goNe_int, goEq_bl, goNe_bl, gcMin_ints, gcMinT_ints, gcMax_ints, gcMaxT_ints, intsOf_mapf, blsOf_mapf, gcMin_f, gcMax_f, gcMin_2, gcMax_2, gcSum_ints, gcSum_f, gcBls_f, all_mapid, any_mapid, at_0, at_1, at_2, at_3, at_last, noOwn_nil, noOwn_1, noOwn_2, nof_n, nof_v, nof_b, nof_s, zipD_map, enumD_map, isi_non_int, isi_non_bool, isi_non_str, isi_non_tuple, isi_non_list, isi_non_dict, isi_bl_int, isi_bl_bool, isi_bl_str, isi_bl_tuple, isi_bl_list, isi_bl_dict, isi_int_int, isi_int_bool, isi_int_str, isi_int_tuple, isi_int_list, isi_int_dict, isi_str_int, isi_str_bool, isi_str_str, isi_str_tuple, isi_str_list, isi_str_dict, isi_tup_int, isi_tup_bool, isi_tup_str, isi_tup_tuple, isi_tup_list, isi_tup_dict, isi_lst_int, isi_lst_bool, isi_lst_str, isi_lst_tuple, isi_lst_list, isi_lst_dict, isi_dic_int, isi_dic_bool, isi_dic_str, isi_dic_tuple, isi_dic_list, isi_dic_dict, gcAll, gcAny, goMod, goFdiv, decide_eq_true_eq, Bool.not_eq_true', decide_eq_false_iff_not, ite_not, Bool.and_eq_true, not_false_eq_true, Bool.not_eq_true, List.map_append, Int.zero_add, List.any_cons, List.any_nil, Bool.true_and, Bool.or_false, Bool.xor_false, Bool.false_xor, Bool.true_xor, Bool.not_not, forall_const, Int.toNat_natCast, List.length_map, List.length_append, and_self, ne_eq, List.map_eq_nil_iff, not_true_eq_false, eq_self, goMulI, goSub, goPow, goLe, goGt, goGe, guNeg, gcAbs, goEq_str, goNe_str, goEq_tup, goNe_tup, goEq_lst, goNe_lst, goEq_non, goNe_non, gAndV_k, gOrV_k, gCh_k, blK_bl, ite_bf, reduceCtorEq, Int.reducePow, Int.reduceLT, Int.reduceLE, Int.reduceNeg, sz0, se0, sz1, se1, sz2, se2, sz3, se3, sz4, se4, sz5, se5, sz6, se6, sz7, se7, sz8, se8, sz9, se9, gFld, fldK_ref, gPutF, gPutFM, putFK_ref, gDrf, drfK_ref, gMApp, mlK_ref, gMPop, popK_int, gMIns, ins2K_2, insK_int, gMeth, mthK_ref, gMake, giR3, gFlR1, gFlR2, rg2K_int, gLenSet, lenSetK_lst, lenSetK_tup, gMinD, minDK_lst, giMem, giBA, gMIdx, goTab, gFsort, sortK_lst, sortK_tup])
local macro_rules | `(tactic| wp_walk using $ts,*) => `(tactic| simp only [$[$ts:term],*, gSeq, gSet, gRet, gRetN, gNext, gIfS, gDrop, gOwn, gApp, gExt, gForM, gLcM, gCnt, gTryV, gTryE, gxP, gxM, DL.Fr.mute, gIPut, gFrz, frz, gAsg, gPar, gPar3, gAug, gRaise, gRetM, gSetM, gMPut, gMGet, g1, g2, gC, gV, gVw, gB, gAnd, gOr, gNot, gNotV, gIf, DL.gCons, DL.gNil, DL.gTup, DL.gLst, gFl, gFd, gCa, gLenS, gPart, gNoP, gDisp, gPcons, gPnil, gtN, gtTup, gtCons, gtNil, gYes, gFor, gLc, giS, gCallP, gCallM, gScr, entry, aSls, aSl, DL.Fr.set, OM.d, wipeF, wipeS, keyD, List.length_cons, List.length_nil, List.cons_append, List.nil_append, List.append_nil, List.replicate_succ, List.replicate_zero, List.getElem?_cons_zero, List.getElem?_cons_succ, List.getElem?_nil, List.set_cons_zero, List.set_cons_succ, Nat.reduceAdd, Nat.reduceSub, if_true, if_false, ite_true, ite_false, reduceIte, Bool.false_eq_true, Bool.not_true, Bool.not_false, List.all_cons, List.all_nil, Bool.and_true, true_and, and_true, List.map_cons, List.map_nil, gIdx, ixT_ints, intsOf_map, Int.reduceToNat, Option.some.injEq, exists_eq_left', goAdd_int, goAdd_str, goAdd_tup, goAdd_lst, goAddW_int, goAddW_lst, goPlus_int, goI_int, guI_int, gcI1_int, goIx_lst, gcLen_lst, gcTupleS_lst, gcList_lst, goRevA_lst, goIx_tup, gcLen_tup, gcTupleS_tup, gcList_tup, goRevA_tup, gcTuple_lst, goIx_str, gcLen_str, gcInt_int, gcInt_bl, goMulT_tup, goMulL_lst, goIsB_bl, goIsN_non, isN_int, isN_bl, isN_str, isN_tup, isN_lst, isN_dic, isN_ref, isN_ty, isN_non, gTru_k, truK_non, truK_bl, truK_int, truK_lst, truK_tup, truK_str, gFlist_k, lstK_lst, lstK_tup, gsSl_k, slK_lst, slK_tup, slK_str, itsD_k, itsK_lst, itsK_tup, giZip_k, zipK_lst, zipK_tup, giR1_k, ran1K_nat, ran1K_int, giR2_k, ran2K_int, goLtA_int, goLtA_tup, ok_non, eqv_bl, goEq_int, goNe_int, goEq_bl, goNe_bl, gcMin_ints, gcMinT_ints, gcMax_ints, gcMaxT_ints, intsOf_mapf, blsOf_mapf, gcMin_f, gcMax_f, gcMin_2, gcMax_2, gcSum_ints, gcSum_f, gcBls_f, all_mapid, any_mapid, at_0, at_1, at_2, at_3, at_last, noOwn_nil, noOwn_1, noOwn_2, nof_n, nof_v, nof_b, nof_s, zipD_map, enumD_map, isi_non_int, isi_non_bool, isi_non_str, isi_non_tuple, isi_non_list, isi_non_dict, isi_bl_int, isi_bl_bool, isi_bl_str, isi_bl_tuple, isi_bl_list, isi_bl_dict, isi_int_int, isi_int_bool, isi_int_str, isi_int_tuple, isi_int_list, isi_int_dict, isi_str_int, isi_str_bool, isi_str_str, isi_str_tuple, isi_str_list, isi_str_dict, isi_tup_int, isi_tup_bool, isi_tup_str, isi_tup_tuple, isi_tup_list, isi_tup_dict, isi_lst_int, isi_lst_bool, isi_lst_str, isi_lst_tuple, isi_lst_list, isi_lst_dict, isi_dic_int, isi_dic_bool, isi_dic_str, isi_dic_tuple, isi_dic_list, isi_dic_dict, gcAll, gcAny, goMod, goFdiv, decide_eq_true_eq, Bool.not_eq_true', decide_eq_false_iff_not, ite_not, Bool.and_eq_true, not_false_eq_true, Bool.not_eq_true, List.map_append, Int.zero_add, List.any_cons, List.any_nil, Bool.true_and, Bool.or_false, Bool.xor_false, Bool.false_xor, Bool.true_xor, Bool.not_not, forall_const, Int.toNat_natCast, List.length_map, List.length_append, and_self, ne_eq, List.map_eq_nil_iff, not_true_eq_false, eq_self, goMulI, goSub, goPow, goLe, goGt, goGe, guNeg, gcAbs, goEq_str, goNe_str, goEq_tup, goNe_tup, goEq_lst, goNe_lst, goEq_non, goNe_non, gAndV_k, gOrV_k, gCh_k, blK_bl, ite_bf, reduceCtorEq, Int.reducePow, Int.reduceLT, Int.reduceLE, Int.reduceNeg, sz0, se0, sz1, se1, sz2, se2, sz3, se3, sz4, se4, sz5, se5, sz6, se6, sz7, se7, sz8, se8, sz9, se9, gFld, fldK_ref, gPutF, gPutFM, putFK_ref, gDrf, drfK_ref, gMApp, mlK_ref, gMPop, popK_int, gMIns, ins2K_2, insK_int, gMeth, mthK_ref, gMake, giR3, gFlR1, gFlR2, rg2K_int, gLenSet, lenSetK_lst, lenSetK_tup, gMinD, minDK_lst, giMem, giBA, gMIdx, goTab, gFsort, sortK_lst, sortK_tup])
variable {K : PySem.W.Frag}
/-! the program's heaps.py -/
def HeapAt (K : PySem.W.Frag) (M : Mem) (a l : Addr) (ns : List Int) : Prop := M a = some (.ins (He.ga K "Heap") [("kept", .v (.ref l))]) ∧ M l = some (.om (.lst (ns.map .int))) ∧ Cls K (He.ga K "Heap") ∧ NoAttr K (He.ga K "Heap") "kept"
def looks (ns : List Int) (x : Int) : Int := if x ∈ ns then ((ns.idxOf x : Nat) : Int) + 1 else (ns.length : Nat)
def fs_Heap___init__ (K : PySem.W.Frag) : FS := fun ds M Q X => ∃ a d, ds = [.ref a, d] ∧ M a = some (.ins (He.ga K "Heap") []) ∧ Cls K (He.ga K "Heap") ∧ NoAttr K (He.ga K "Heap") "kept" ∧ d.da = true ∧ (isSetB d = false → X (He.ga K "NoThings") M) ∧
  ∀ ns l, d = .tup (ns.map .int) → SetN ns → M l = none → Q .non (mup (mup M l (.om (.lst (ns.map .int)))) a (.ins (He.ga K "Heap") [("kept", .v (.ref l))]))
theorem mo_Heap___init__ {K : PySem.W.Frag} : MonoF (fs_Heap___init__ K) := fun _ _ _ _ _ _ h hx ⟨a, d, e, c, c2, c3, c4, q, q2⟩ => ⟨a, d, e, c, c2, c3, c4, fun z => hx _ _ (q z), fun ns l z1 z2 z3 => h _ _ (q2 ns l z1 z2 z3)⟩
def Fk_Heap (K : PySem.W.Frag) : Prop := Cls K (He.ga K "Heap") ∧ NoAttr K (He.ga K "Heap") "kept"
/-- Heap.__init__ -/
def g_Heap___init__ (K : PySem.W.Frag) : GS := gSeq (gDrop (gCallP (fs_p_need_set K) (gCons (gV 1) gNil))) (gPutFM K "kept" (gV 0) (gFlist (gV 1)))
theorem h_Heap___init__ {K : PySem.W.Frag} : ∀ ds M Q X, (fs_Heap___init__ K) ds M Q X → ds.length = ([.v, .v] : List AK).length → g_Heap___init__ K { nx := fun _ M' => Q .non M', rt := Q } (entry 2 [.v, .v] ds X) M := by
  rintro ds M Q X ⟨a, d, rfl, ma, hc, hn, hd, q, q2⟩ -
  wp_walk using g_Heap___init__
  refine ⟨d, rfl, hd, fun h => ?_, q⟩
  obtain ⟨ns, rfl, hs⟩ := isSetB_iff.mp h
  wp_walk
  intro l nl
  have nal : a ≠ l := fun e => by rw [e, nl] at ma; cases ma
  rw [mup_ne nal, ma]
  exact ⟨⟨hc, hn⟩, by simp, q2 ns l rfl hs nl⟩
theorem lk_kept (v : Fl) : List.lookup ("kept" : PySem.Str) [(("kept" : PySem.Str), v)] = some v := rfl
def fs_Heap_looks (K : PySem.W.Frag) : FS := fun ds M Q _ => ∃ a l ns x, ds = [.ref a, .int x] ∧ HeapAt K M a l ns ∧ Q (.int (looks ns x)) M
theorem mo_Heap_looks {K : PySem.W.Frag} : MonoF (fs_Heap_looks K) := fun _ _ _ _ _ _ h _ ⟨a, l, ns, x, e, c, q⟩ => ⟨a, l, ns, x, e, c, h _ _ q⟩
/-- Heap.looks -/
def af1_Heap_looks (K : PySem.W.Frag) : GS := gRet (gCa gcLen (gCons (gDrf (gFld K "kept" (gV 0))) gNil))
def g_Heap_looks (K : PySem.W.Frag) : GS := gSeq (gIfS (gB (g2 (goIn false) (gV 1) (gDrf (gFld K "kept" (gV 0))))) (gRet (g2 goAdd (gMIdx (gFld K "kept" (gV 0)) (gV 1)) (gC (.int 1)))) (gNext)) (af1_Heap_looks K)
theorem h_Heap_looks {K : PySem.W.Frag} : ∀ ds M Q X, (fs_Heap_looks K) ds M Q X → ds.length = ([.v, .v] : List AK).length → g_Heap_looks K { nx := fun _ M' => Q .non M', rt := Q } (entry 2 [.v, .v] ds X) M := by
  rintro ds M Q X ⟨a, l, ns, x, rfl, ⟨ma, ml, hc, hn⟩, q⟩ -
  wp_walk using g_Heap_looks, ma, ml, hc, hn, lk_kept, goIn_lstI
  unfold looks at q
  by_cases h : x ∈ ns
  · rw [if_pos h] at q
    have eix := ixM_ints (x := x) (ns := ns) (k := fun j => Q (.int ((j : Nat) + 1)) M) h
    wp_walk using h, ma, ml, hc, hn, lk_kept
    rw [eix]
    exact q
  · rw [if_neg h] at q
    wp_walk using h, ma, ml, hc, hn, lk_kept, af1_Heap_looks
    exact q
theorem looks_of {M : Mem} {a l : Addr} {ns : List Int} {x : Int} {Q : D → Mem → Prop} {X : Addr → Mem → Prop} (h : HeapAt K M a l ns) (q : Q (.int (looks ns x)) M) : fs_Heap_looks K [.ref a, .int x] M Q X := ⟨a, l, ns, x, rfl, h, q⟩
/-- a deed of a heap: what is asked about may be anything -/
def heapF (K : PySem.W.Frag) (body : Addr → Addr → List Int → Int → Mem → (D → Mem → Prop) → (Addr → Mem → Prop) → Prop) : FS := fun ds M Q X => ∃ a l ns d, ds = [.ref a, d] ∧ HeapAt K M a l ns ∧ SetN ns ∧ d.da = true ∧ (isThing d = false → X (He.ga K "NoDeed") M) ∧ ∀ x, d = .int x → 0 ≤ x → x ≤ 999999 → body a l ns x M Q X
theorem heapF_mono {K : PySem.W.Frag} {body : Addr → Addr → List Int → Int → Mem → (D → Mem → Prop) → (Addr → Mem → Prop) → Prop} (hb : ∀ a l ns x M Q Q' X X', (∀ d M', Q d M' → Q' d M') → (∀ C M', X C M' → X' C M') → body a l ns x M Q X → body a l ns x M Q' X') : MonoF (heapF K body) := fun _ _ _ _ _ _ h hx ⟨a, l, ns, d, e, c, c2, c3, q, q2⟩ => ⟨a, l, ns, d, e, c, c2, c3, fun z => hx _ _ (q z), fun x e h0 h1 => hb _ _ _ _ _ _ _ _ _ h hx (q2 x e h0 h1)⟩
def fs_Heap_put (K : PySem.W.Frag) : FS := heapF K fun a l ns x M Q X => (x ∈ ns → Q (.tup [.int 0, .int (1 + looks ns x)]) M) ∧ (x ∉ ns → ns.length = 40 → X (He.ga K "TooMany") M) ∧ (x ∉ ns → ns.length ≠ 40 → Q (.tup [.int 1, .int (1 + looks ns x + 1)]) (mup M l (.om (.lst ((ns ++ [x]).map .int)))))
theorem mo_Heap_put {K : PySem.W.Frag} : MonoF (fs_Heap_put K) := heapF_mono fun _ _ _ _ _ _ _ _ _ h hx ⟨q1, q2, q3⟩ => ⟨fun z => h _ _ (q1 z), fun z z2 => hx _ _ (q2 z z2), fun z z2 => h _ _ (q3 z z2)⟩
/-- Heap.put -/
def af1_Heap_put (K : PySem.W.Frag) : GS := gSeq (gDrop (gCallP (fs_p_need_place K) (gCons (gDrf (gFld K "kept" (gV 0))) gNil))) (gSeq (gMApp (gFld K "kept" (gV 0)) (gV 1)) (gRet (gTup (gCons (gC (.int 1)) (gCons (g2 goAdd (gV 2) (gC (.int 1))) gNil)))))
def g_Heap_put (K : PySem.W.Frag) : GS := gSeq (gDrop (gCallP (fs_p_need_member K) (gCons (gV 1) gNil))) (gSeq (gSet 2 (g2 goAdd (gC (.int 1)) (gMeth "looks" [(He.ga K "Heap", fs_Heap_looks K)] (gV 0) (gCons (gV 1) gNil)))) (gSeq (gIfS (gB (g2 (goIn false) (gV 1) (gDrf (gFld K "kept" (gV 0))))) (gRet (gTup (gCons (gC (.int 0)) (gCons (gV 2) gNil)))) (gNext)) (af1_Heap_put K)))
theorem h_Heap_put {K : PySem.W.Frag} : ∀ ds M Q X, (fs_Heap_put K) ds M Q X → ds.length = ([.v, .v] : List AK).length → g_Heap_put K { nx := fun _ M' => Q .non M', rt := Q } (entry 3 [.v, .v] ds X) M := by
  rintro ds M Q X ⟨a, l, ns, d, rfl, hh, hs, hd, q, q2⟩ -
  obtain ⟨ma, ml, hc, hn⟩ := id hh
  wp_walk using g_Heap_put
  refine ⟨d, rfl, hd, fun h => ?_, q⟩
  obtain ⟨x, rfl, x0, x1⟩ := isThing_int h
  obtain ⟨q1, q2, q3⟩ := q2 x rfl x0 x1
  wp_walk using ma, ml, hc, hn
  refine ⟨rfl, _, List.mem_cons_self .., looks_of hh ?_⟩
  by_cases h : x ∈ ns
  · wp_walk using h, ma, ml, hc, hn, lk_kept, goIn_lstI
    exact q1 h
  · wp_walk using h, ma, ml, hc, hn, lk_kept, goIn_lstI, af1_Heap_put
    refine ⟨.lst (ns.map .int), ns.map .int, rfl, rfl, fun z => ?_, fun z => q2 h (by simpa using z)⟩
    wp_walk using h, ma, ml, hc, hn, lk_kept
    refine ⟨size_lt (by have := hs.len; omega), ?_⟩
    have q4 := q3 h (by simpa using z)
    rw [List.map_append] at q4
    exact q4
def fs_Heap_take (K : PySem.W.Frag) : FS := heapF K fun a l ns x M Q X => (x ∉ ns → Q (.tup [.int 0, .int (1 + looks ns x)]) M) ∧ (x ∈ ns → Q (.tup [.int 1, .int (1 + looks ns x + ((ns.length : Nat) - 1 : Int) - (ns.idxOf x : Nat))]) (mup M l (.om (.lst ((ns.eraseIdx (ns.idxOf x)).map .int)))))
theorem mo_Heap_take {K : PySem.W.Frag} : MonoF (fs_Heap_take K) := heapF_mono fun _ _ _ _ _ _ _ _ _ h hx ⟨q1, q2⟩ => ⟨fun z => h _ _ (q1 z), fun z => h _ _ (q2 z)⟩
/-- Heap.take -/
def af1_Heap_take (K : PySem.W.Frag) : GS := gSeq (gSet 3 (gMIdx (gFld K "kept" (gV 0)) (gV 1))) (gSeq (gDrop (gMPop (gFld K "kept" (gV 0)) (gV 3))) (gRet (gTup (gCons (gC (.int 1)) (gCons (g2 goSub (g2 goAdd (gV 2) (gCa gcLen (gCons (gDrf (gFld K "kept" (gV 0))) gNil))) (gV 3)) gNil)))))
def g_Heap_take (K : PySem.W.Frag) : GS := gSeq (gDrop (gCallP (fs_p_need_member K) (gCons (gV 1) gNil))) (gSeq (gSet 2 (g2 goAdd (gC (.int 1)) (gMeth "looks" [(He.ga K "Heap", fs_Heap_looks K)] (gV 0) (gCons (gV 1) gNil)))) (gSeq (gIfS (gB (g2 (goIn true) (gV 1) (gDrf (gFld K "kept" (gV 0))))) (gRet (gTup (gCons (gC (.int 0)) (gCons (gV 2) gNil)))) (gNext)) (af1_Heap_take K)))
theorem h_Heap_take {K : PySem.W.Frag} : ∀ ds M Q X, (fs_Heap_take K) ds M Q X → ds.length = ([.v, .v] : List AK).length → g_Heap_take K { nx := fun _ M' => Q .non M', rt := Q } (entry 4 [.v, .v] ds X) M := by
  rintro ds M Q X ⟨a, l, ns, d, rfl, hh, hs, hd, q, q2⟩ -
  obtain ⟨ma, ml, hc, hn⟩ := id hh
  wp_walk using g_Heap_take
  refine ⟨d, rfl, hd, fun h => ?_, q⟩
  obtain ⟨x, rfl, x0, x1⟩ := isThing_int h
  obtain ⟨q1, q2⟩ := q2 x rfl x0 x1
  wp_walk using ma, ml, hc, hn
  refine ⟨rfl, _, List.mem_cons_self .., looks_of hh ?_⟩
  by_cases h : x ∈ ns
  · have hix := List.idxOf_lt_length_of_mem h
    wp_walk using h, ma, ml, hc, hn, lk_kept, goIn_lstI, af1_Heap_take
    rw [ixM_ints h]
    wp_walk using h, ma, ml, hc, hn, lk_kept
    have hl := hs.len
    have nal : a ≠ l := fun e => by rw [e, ml] at ma; cases ma
    have eg : (ns.map D.int)[ns.idxOf x]? = some (.int x) := by
      rw [List.getElem?_map, List.getElem?_eq_getElem hix, List.getElem_idxOf]
      rfl
    rw [eg, erase_mapP]
    refine ⟨⟨by omega, by omega, by omega⟩, ?_⟩
    have ma2 : ∀ o, (mup M l o) a = some (.ins (He.ga K "Heap") [("kept", .v (.ref l))]) := fun o => by rw [mup_ne nal]; exact ma
    wp_walk using ma2, hc, hn, lk_kept, mup_same
    have el : (((ns.eraseIdx (ns.idxOf x)).length : Nat) : Int) = (ns.length : Nat) - 1 := by
      rw [List.length_eraseIdx_of_lt hix]
      omega
    rw [el]
    exact q2 h
  · wp_walk using h, ma, ml, hc, hn, lk_kept, goIn_lstI
    exact q1 h
def fs_Heap_has (K : PySem.W.Frag) : FS := heapF K fun a l ns x M Q X => Q (.tup [.int (if x ∈ ns then 1 else 0), .int (1 + looks ns x)]) M
theorem mo_Heap_has {K : PySem.W.Frag} : MonoF (fs_Heap_has K) := heapF_mono fun _ _ _ _ _ _ _ _ _ h hx q => h _ _ q
/-- Heap.has -/
def g_Heap_has (K : PySem.W.Frag) : GS := gSeq (gDrop (gCallP (fs_p_need_member K) (gCons (gV 1) gNil))) (gRet (gTup (gCons (gCa gcInt (gCons (g2 (goIn false) (gV 1) (gDrf (gFld K "kept" (gV 0)))) gNil)) (gCons (g2 goAdd (gC (.int 1)) (gMeth "looks" [(He.ga K "Heap", fs_Heap_looks K)] (gV 0) (gCons (gV 1) gNil))) gNil))))
theorem h_Heap_has {K : PySem.W.Frag} : ∀ ds M Q X, (fs_Heap_has K) ds M Q X → ds.length = ([.v, .v] : List AK).length → g_Heap_has K { nx := fun _ M' => Q .non M', rt := Q } (entry 2 [.v, .v] ds X) M := by
  rintro ds M Q X ⟨a, l, ns, d, rfl, hh, hs, hd, q, q2⟩ -
  obtain ⟨ma, ml, hc, hn⟩ := id hh
  wp_walk using g_Heap_has
  refine ⟨d, rfl, hd, fun h => ?_, q⟩
  obtain ⟨x, rfl, x0, x1⟩ := isThing_int h
  have q2 := q2 x rfl x0 x1
  wp_walk using ma, ml, hc, hn, lk_kept, goIn_lstI
  refine ⟨rfl, _, List.mem_cons_self .., looks_of hh ?_⟩
  wp_walk
  simpa using q2
def fs_Heap_next_from (K : PySem.W.Frag) : FS := heapF K fun a l ns x M Q X => Q (.tup [.int (leastFrom ns x), .int (1 + (ns.length : Nat))]) M
theorem mo_Heap_next_from {K : PySem.W.Frag} : MonoF (fs_Heap_next_from K) := heapF_mono fun _ _ _ _ _ _ _ _ _ h hx q => h _ _ q
/-- Heap.next_from -/
def g_Heap_next_from (K : PySem.W.Frag) : GS := gSeq (gDrop (gCallP (fs_p_need_member K) (gCons (gV 1) gNil))) (gRet (gTup (gCons (gCallP (fs_p_least_from K) (gCons (gDrf (gFld K "kept" (gV 0))) (gCons (gV 1) gNil))) (gCons (g2 goAdd (gC (.int 1)) (gCa gcLen (gCons (gDrf (gFld K "kept" (gV 0))) gNil))) gNil))))
theorem h_Heap_next_from {K : PySem.W.Frag} : ∀ ds M Q X, (fs_Heap_next_from K) ds M Q X → ds.length = ([.v, .v] : List AK).length → g_Heap_next_from K { nx := fun _ M' => Q .non M', rt := Q } (entry 2 [.v, .v] ds X) M := by
  rintro ds M Q X ⟨a, l, ns, d, rfl, hh, hs, hd, q, q2⟩ -
  obtain ⟨ma, ml, hc, hn⟩ := id hh
  wp_walk using g_Heap_next_from
  refine ⟨d, rfl, hd, fun h => ?_, q⟩
  obtain ⟨x, rfl, x0, x1⟩ := isThing_int h
  have q2 := q2 x rfl x0 x1
  wp_walk using ma, ml, hc, hn, lk_kept
  refine ⟨.lst (ns.map .int), ns, x, rfl, rfl, by have := hs.len; omega, ?_⟩
  wp_walk using ma, ml, hc, hn, lk_kept
  exact q2
def fs_Heap_rank (K : PySem.W.Frag) : FS := heapF K fun a l ns x M Q X => Q (.tup [.int ((below ns x).length : Nat), .int (1 + (ns.length : Nat))]) M
theorem mo_Heap_rank {K : PySem.W.Frag} : MonoF (fs_Heap_rank K) := heapF_mono fun _ _ _ _ _ _ _ _ _ h hx q => h _ _ q
/-- Heap.rank -/
def g_Heap_rank (K : PySem.W.Frag) : GS := gSeq (gDrop (gCallP (fs_p_need_member K) (gCons (gV 1) gNil))) (gRet (gTup (gCons (gCa gcLen (gCons (gFd (gLc (giMem (gFld K "kept" (gV 0))) (gtN 2) (gB (g2 goLtA (gV 2) (gV 1))) (gV 2) [2])) gNil)) (gCons (g2 goAdd (gC (.int 1)) (gCa gcLen (gCons (gDrf (gFld K "kept" (gV 0))) gNil))) gNil))))
theorem h_Heap_rank {K : PySem.W.Frag} : ∀ ds M Q X, (fs_Heap_rank K) ds M Q X → ds.length = ([.v, .v] : List AK).length → g_Heap_rank K { nx := fun _ M' => Q .non M', rt := Q } (entry 3 [.v, .v] ds X) M := by
  rintro ds M Q X ⟨a, l, ns, d, rfl, hh, hs, hd, q, q2⟩ -
  obtain ⟨ma, ml, hc, hn⟩ := id hh
  have hl := hs.len
  wp_walk using g_Heap_rank
  refine ⟨d, rfl, hd, fun h => ?_, q⟩
  obtain ⟨x, rfl, x0, x1⟩ := isThing_int h
  have q2 := q2 x rfl x0 x1
  wp_walk using ma, ml, hc, hn, lk_kept
  refine lc_fp (enc := D.int) (f := D.int) (p := fun n => decide (n < x)) (fun n hn Q' P' y1 y2 => ?_) (size_of (by rw [List.length_nil]; omega)) ?_
  · wp_walk
    by_cases h : n < x
    · rw [if_pos h]
      exact y1 (decide_eq_true h)
    · rw [if_neg h]
      exact y2 (decide_eq_false h)
  · wp_walk using ma, ml, hc, hn, lk_kept
    exact q2
def fs_Heap_form (K : PySem.W.Frag) : FS := fun ds M Q _ => ∃ a l ns, ds = [.ref a] ∧ HeapAt K M a l ns ∧ Q (.tup (ns.map .int)) M
theorem mo_Heap_form {K : PySem.W.Frag} : MonoF (fs_Heap_form K) := fun _ _ _ _ _ _ h _ ⟨a, l, ns, e, c, q⟩ => ⟨a, l, ns, e, c, h _ _ q⟩
/-- Heap.form -/
def g_Heap_form (K : PySem.W.Frag) : GS := gRet (gCa gcTuple (gCons (gDrf (gFld K "kept" (gV 0))) gNil))
theorem h_Heap_form {K : PySem.W.Frag} : ∀ ds M Q X, (fs_Heap_form K) ds M Q X → ds.length = ([.v] : List AK).length → g_Heap_form K { nx := fun _ M' => Q .non M', rt := Q } (entry 1 [.v] ds X) M := by
  rintro ds M Q X ⟨a, l, ns, rfl, ⟨ma, ml, hc, hn⟩, q⟩ -
  wp_walk using g_Heap_form, ma, ml, hc, hn, lk_kept
  exact q

end LW
namespace LW
open PySem PySem.Spec PySem.W PyProof.Rows L2 DL
local macro_rules | `(tactic| wp_walk) => `(tactic| simp only [gSeq, gSet, gRet, gRetN, gNext, gIfS, gDrop, gOwn, gApp, gExt, gForM, gLcM, gCnt, gTryV, gTryE, gxP, gxM, DL.Fr.mute, gIPut, gFrz, frz, gAsg, gPar, gPar3, gAug, gRaise, gRetM, gSetM, gMPut, gMGet, g1, g2, gC, gV, gVw, gB, gAnd, gOr, gNot, gNotV, gIf, DL.gCons, DL.gNil, DL.gTup, DL.gLst, gFl, gFd, gCa, gLenS, gPart, gNoP, gDisp, gPcons, gPnil, gtN, gtTup, gtCons, gtNil, gYes, gFor, gLc, giS, gCallP, gCallM, gScr, entry, aSls, aSl, DL.Fr.set, OM.d, wipeF, wipeS, keyD, List.length_cons, List.length_nil, List.cons_append, List.nil_append, List.append_nil, List.replicate_succ, List.replicate_zero, List.getElem?_cons_zero, List.getElem?_cons_succ, List.getElem?_nil, List.set_cons_zero, List.set_cons_succ, Nat.reduceAdd, Nat.reduceSub, if_true, if_false, ite_true, ite_false, reduceIte, Bool.false_eq_true, Bool.not_true, Bool.not_false, List.all_cons, List.all_nil, Bool.and_true, true_and, and_true, List.map_cons, List.map_nil, gIdx, ixT_ints, intsOf_map, Int.reduceToNat, Option.some.injEq, exists_eq_left', goAdd_int, goAdd_str, goAdd_tup, goAdd_lst, goAddW_int, goAddW_lst, goPlus_int, goI_int, guI_int, gcI1_int, goIx_lst, gcLen_lst, gcTupleS_lst, gcList_lst, goRevA_lst, goIx_tup, gcLen_tup, gcTupleS_tup, gcList_tup, goRevA_tup, gcTuple_lst, goIx_str, gcLen_str, gcInt_int, gcInt_bl, goMulT_tup, goMulL_lst, goIsB_bl, goIsN_non, isN_int, isN_bl, isN_str, isN_tup, isN_lst, isN_dic, isN_ref, isN_ty, isN_non, gTru_k, truK_non, truK_bl, truK_int, truK_lst, truK_tup, truK_str, gFlist_k, lstK_lst, lstK_tup, gsSl_k, slK_lst, slK_tup, slK_str, itsD_k, itsK_lst, itsK_tup, giZip_k, zipK_lst, zipK_tup, giR1_k, ran1K_nat, ran1K_int, giR2_k, ran2K_int, goLtA_int, goLtA_tup, ok_non, eqv_bl, goEq_int, goNe_int, goEq_bl, goNe_bl, gcMin_ints, gcMinT_ints, gcMax_ints, gcMaxT_ints, intsOf_mapf, blsOf_mapf, gcMin_f, gcMax_f, gcMin_2, gcMax_2, gcSum_ints, gcSum_f, gcBls_f, all_mapid, any_mapid, at_0, at_1, at_2, at_3, at_last, noOwn_nil, noOwn_1, noOwn_2, nof_n, nof_v, nof_b, nof_s, zipD_map, enumD_map, isi_non_int, isi_non_bool, isi_non_str, isi_non_tuple, isi_non_list, isi_non_dict, isi_bl_int, isi_bl_bool, isi_bl_str, isi_bl_tuple, isi_bl_list, isi_bl_dict, isi_int_int, isi_int_bool, isi_int_str, isi_int_tuple, isi_int_list, isi_int_dict, isi_str_int, isi_str_bool, isi_str_str, isi_str_tuple, isi_str_list, isi_str_dict, isi_tup_int, isi_tup_bool, isi_tup_str, isi_tup_tuple, isi_tup_list, isi_tup_dict, isi_lst_int, isi_lst_bool, isi_lst_str, isi_lst_tuple, isi_lst_list, isi_lst_dict, isi_dic_int, isi_dic_bool, isi_dic_str, isi_dic_tuple, isi_dic_list, isi_dic_dict, gcAll, gcAny, goMod, goFdiv, decide_eq_true_eq, Bool.not_eq_true', decide_eq_false_iff_not, ite_not, Bool.and_eq_true, not_false_eq_true, Bool.not_eq_true, List.map_append, Int.zero_add, List.any_cons, List.any_nil, Bool.true_and, Bool.or_false, Bool.xor_false, Bool.false_xor, Bool.true_xor, Bool.not_not, forall_const, Int.toNat_natCast, List.length_map, List.length_append, and_self, ne_eq, List.map_eq_nil_iff, not_true_eq_false, eq_self, goMulI, goSub, goPow, goLe, goGt, goGe, guNeg, gcAbs, goEq_str, goNe_str, goEq_tup, goNe_tup, goEq_lst, goNe_lst, goEq_non, goNe_non, gAndV_k, gOrV_k, gCh_k, blK_bl, ite_bf, reduceCtorEq, Int.reducePow, Int.reduceLT, Int.reduceLE, Int.reduceNeg, sz0, se0, sz1, se1, sz2, se2, sz3, se3, sz4, se4, sz5, se5, sz6, se6, sz7, se7, sz8, se8, sz9, se9, gFld, fldK_ref, gPutF, gPutFM, putFK_ref, gDrf, drfK_ref, gMApp, mlK_ref, gMPop, popK_int, gMIns, ins2K_2, insK_int, gMeth, mthK_ref, gMake, giR3, gFlR1, gFlR2, rg2K_int, gLenSet, lenSetK_lst, lenSetK_tup, gMinD, minDK_lst, giMem, giBA, gMIdx, goTab, gFsort, sortK_lst, sortK_tup])
local macro_rules | `(tactic| wp_walk using $ts,*) => `(tactic| simp only [$[$ts:term],*, gSeq, gSet, gRet, gRetN, gNext, gIfS, gDrop, gOwn, gApp, gExt, gForM, gLcM, gCnt, gTryV, gTryE, gxP, gxM, DL.Fr.mute, gIPut, gFrz, frz, gAsg, gPar, gPar3, gAug, gRaise, gRetM, gSetM, gMPut, gMGet, g1, g2, gC, gV, gVw, gB, gAnd, gOr, gNot, gNotV, gIf, DL.gCons, DL.gNil, DL.gTup, DL.gLst, gFl, gFd, gCa, gLenS, gPart, gNoP, gDisp, gPcons, gPnil, gtN, gtTup, gtCons, gtNil, gYes, gFor, gLc, giS, gCallP, gCallM, gScr, entry, aSls, aSl, DL.Fr.set, OM.d, wipeF, wipeS, keyD, List.length_cons, List.length_nil, List.cons_append, List.nil_append, List.append_nil, List.replicate_succ, List.replicate_zero, List.getElem?_cons_zero, List.getElem?_cons_succ, List.getElem?_nil, List.set_cons_zero, List.set_cons_succ, Nat.reduceAdd, Nat.reduceSub, if_true, if_false, ite_true, ite_false, reduceIte, Bool.false_eq_true, Bool.not_true, Bool.not_false, List.all_cons, List.all_nil, Bool.and_true, true_and, and_true, List.map_cons, List.map_nil, gIdx, ixT_ints, intsOf_map, Int.reduceToNat, Option.some.injEq, exists_eq_left', goAdd_int, goAdd_str, goAdd_tup, goAdd_lst, goAddW_int, goAddW_lst, goPlus_int, goI_int, guI_int, gcI1_int, goIx_lst, gcLen_lst, gcTupleS_lst, gcList_lst, goRevA_lst, goIx_tup, gcLen_tup, gcTupleS_tup, gcList_tup, goRevA_tup, gcTuple_lst, goIx_str, gcLen_str, gcInt_int, gcInt_bl, goMulT_tup, goMulL_lst, goIsB_bl, goIsN_non, isN_int, isN_bl, isN_str, isN_tup, isN_lst, isN_dic, isN_ref, isN_ty, isN_non, gTru_k, truK_non, truK_bl, truK_int, truK_lst, truK_tup, truK_str, gFlist_k, lstK_lst, lstK_tup, gsSl_k, slK_lst, slK_tup, slK_str, itsD_k, itsK_lst, itsK_tup, giZip_k, zipK_lst, zipK_tup, giR1_k, ran1K_nat, ran1K_int, giR2_k, ran2K_int, goLtA_int, goLtA_tup, ok_non, eqv_bl, goEq_int, goNe_int, goEq_bl, goNe_bl, gcMin_ints, gcMinT_ints, gcMax_ints, gcMaxT_ints, intsOf_mapf, blsOf_mapf, gcMin_f, gcMax_f, gcMin_2, gcMax_2, gcSum_ints, gcSum_f, gcBls_f, all_mapid, any_mapid, at_0, at_1, at_2, at_3, at_last, noOwn_nil, noOwn_1, noOwn_2, nof_n, nof_v, nof_b, nof_s, zipD_map, enumD_map, isi_non_int, isi_non_bool, isi_non_str, isi_non_tuple, isi_non_list, isi_non_dict, isi_bl_int, isi_bl_bool, isi_bl_str, isi_bl_tuple, isi_bl_list, isi_bl_dict, isi_int_int, isi_int_bool, isi_int_str, isi_int_tuple, isi_int_list, isi_int_dict, isi_str_int, isi_str_bool, isi_str_str, isi_str_tuple, isi_str_list, isi_str_dict, isi_tup_int, isi_tup_bool, isi_tup_str, isi_tup_tuple, isi_tup_list, isi_tup_dict, isi_lst_int, isi_lst_bool, isi_lst_str, isi_lst_tuple, isi_lst_list, isi_lst_dict, isi_dic_int, isi_dic_bool, isi_dic_str, isi_dic_tuple, isi_dic_list, isi_dic_dict, gcAll, gcAny, goMod, goFdiv, decide_eq_true_eq, Bool.not_eq_true', decide_eq_false_iff_not, ite_not, Bool.and_eq_true, not_false_eq_true, Bool.not_eq_true, List.map_append, Int.zero_add, List.any_cons, List.any_nil, Bool.true_and, Bool.or_false, Bool.xor_false, Bool.false_xor, Bool.true_xor, Bool.not_not, forall_const, Int.toNat_natCast, List.length_map, List.length_append, and_self, ne_eq, List.map_eq_nil_iff, not_true_eq_false, eq_self, goMulI, goSub, goPow, goLe, goGt, goGe, guNeg, gcAbs, goEq_str, goNe_str, goEq_tup, goNe_tup, goEq_lst, goNe_lst, goEq_non, goNe_non, gAndV_k, gOrV_k, gCh_k, blK_bl, ite_bf, reduceCtorEq, Int.reducePow, Int.reduceLT, Int.reduceLE, Int.reduceNeg, sz0, se0, sz1, se1, sz2, se2, sz3, se3, sz4, se4, sz5, se5, sz6, se6, sz7, se7, sz8, se8, sz9, se9, gFld, fldK_ref, gPutF, gPutFM, putFK_ref, gDrf, drfK_ref, gMApp, mlK_ref, gMPop, popK_int, gMIns, ins2K_2, insK_int, gMeth, mthK_ref, gMake, giR3, gFlR1, gFlR2, rg2K_int, gLenSet, lenSetK_lst, lenSetK_tup, gMinD, minDK_lst, giMem, giBA, gMIdx, goTab, gFsort, sortK_lst, sortK_tup])
variable {K : PySem.W.Frag}
/-! the program's lines.py: a row kept sorted -/
def above (ns : List Int) (x : Int) : List Int := ns.filter fun n => decide (x ≤ n)
/-- how many looks halving takes -/
def lkH (row : List Int) (x : Int) : Nat := if h : row.length = 0 then 0 else 1 + (if row.getD (row.length / 2) 0 < x then lkH (row.drop (row.length / 2 + 1)) x else lkH (row.take (row.length / 2)) x)
termination_by row.length
decreasing_by
  · rw [List.length_drop]; omega
  · rw [List.length_take]; omega
theorem lkH_nil (x : Int) : lkH [] x = 0 := by rw [lkH]; rfl
theorem lkH_mid {a b : List Int} {y x : Int} (h : a.length = (a ++ y :: b).length / 2) : lkH (a ++ y :: b) x = 1 + (if y < x then lkH b x else lkH a x) := by
  have e1 : (a ++ y :: b).getD ((a ++ y :: b).length / 2) 0 = y := by
    rw [← h, List.getD_eq_getElem?_getD, List.getElem?_append_right (Nat.le_refl _), Nat.sub_self]
    rfl
  have e2 : (a ++ y :: b).drop ((a ++ y :: b).length / 2 + 1) = b := by
    rw [← h, List.drop_append, List.drop_eq_nil_of_le (by omega), List.nil_append, show a.length + 1 - a.length = 1 by omega]
    rfl
  have e3 : (a ++ y :: b).take ((a ++ y :: b).length / 2) = a := by
    rw [← h, List.take_left]
  rw [lkH, dif_neg (by rw [List.length_append, List.length_cons]; omega), e1, e2, e3]
theorem mid_split {row : List Int} (h : 0 < row.length) : ∃ a y b, row = a ++ y :: b ∧ a.length = row.length / 2 := by
  have hl : row.length / 2 < row.length := by omega
  refine ⟨row.take (row.length / 2), row[row.length / 2], row.drop (row.length / 2 + 1), ?_, by rw [List.length_take]; omega⟩
  rw [← List.drop_eq_getElem_cons hl, List.take_append_drop]
theorem lkH_le : ∀ (n : Nat) (row : List Int) (x : Int), row.length ≤ n → lkH row x ≤ row.length
  | 0, row, x, h => by
    have : row = [] := List.length_eq_zero_iff.mp (by omega)
    subst this
    rw [lkH_nil]
    omega
  | n + 1, row, x, h => by
    by_cases h0 : 0 < row.length
    · obtain ⟨a, y, b, e, el⟩ := mid_split h0
      subst e
      rw [lkH_mid el]
      have hh : (a ++ y :: b).length = a.length + (b.length + 1) := by rw [List.length_append, List.length_cons]
      rw [hh] at h ⊢
      have h1 := lkH_le n a x (by omega)
      have h2 := lkH_le n b x (by omega)
      split <;> omega
    · have : row = [] := List.length_eq_zero_iff.mp (by omega)
      subst this
      rw [lkH_nil]
      omega
theorem srt_split {x : Int} : ∀ {ks : List Int}, ks.Pairwise (· < ·) → ks = below ks x ++ above ks x
  | [], _ => rfl
  | k :: ks, h => by
    obtain ⟨h1, h2⟩ := List.pairwise_cons.mp h
    unfold below above
    rw [List.filter_cons, List.filter_cons]
    by_cases e : k < x
    · rw [decide_eq_true e, decide_eq_false (by omega), if_pos rfl, if_neg Bool.false_ne_true]
      show k :: ks = k :: (below ks x ++ above ks x)
      rw [← srt_split h2]
    · rw [decide_eq_false e, decide_eq_true (by omega), if_pos rfl, if_neg Bool.false_ne_true]
      have e0 : below ks x = [] := List.filter_eq_nil_iff.mpr fun z hz => by
        have := h1 z hz
        rw [decide_eq_true_eq]
        omega
      have e1 : above ks x = ks := List.filter_eq_self.mpr fun z hz => by
        have := h1 z hz
        exact decide_eq_true (by omega)
      show k :: ks = below ks x ++ k :: above ks x
      rw [e0, e1]
      rfl
def fs_p_halved (K : PySem.W.Frag) : FS := fun ds M Q _ => ∃ (d : D) (ks : List Int) (x : Int), ds = [d, .int x] ∧ seqOf d = some (ks.map .int) ∧ ks.length ≤ 1000 ∧ ks.Pairwise (· < ·) ∧ Q (.tup [.int ((below ks x).length : Nat), .int (lkH ks x : Nat)]) M
theorem mo_p_halved {K : PySem.W.Frag} : MonoF (fs_p_halved K) := fun _ _ _ _ _ _ h _ ⟨d, ks, x, e, c, c2, c3, q⟩ => ⟨d, ks, x, e, c, c2, c3, h _ _ q⟩
/-- halved -/
def lp1_p_halved (K : PySem.W.Frag) : GS := gSeq (gSet 5 (g2 goFdiv (g2 goAdd (gV 2) (gV 3)) (gC (.int 2)))) (gSeq (gSet 4 (g2 goAdd (gV 4) (gC (.int 1)))) (gIfS (gB (g2 goLtA (g2 goIx (gVw 0) (gV 5)) (gV 1))) (gSet 2 (g2 goAdd (gV 5) (gC (.int 1)))) (gSet 3 (gV 5))))
def af1_p_halved (K : PySem.W.Frag) : GS := gRet (gTup (gCons (gV 2) (gCons (gV 4) gNil)))
def g_p_halved (K : PySem.W.Frag) : GS := gSeq (gPar3 2 3 4 (gCons (gC (.int 0)) (gCons (gCa gcLen (gCons (gVw 0) gNil)) (gCons (gC (.int 0)) gNil)))) (gSeq (gWhile (gB (g2 goLtA (gV 2) (gV 3))) (lp1_p_halved K)) (af1_p_halved K))
theorem h_p_halved {K : PySem.W.Frag} : ∀ ds M Q X, (fs_p_halved K) ds M Q X → ds.length = ([.b, .v] : List AK).length → g_p_halved K { nx := fun _ M' => Q .non M', rt := Q } (entry 6 [.b, .v] ds X) M := by
  rintro ds M Q X ⟨d, ks, x, rfl, hs, hl, hk, q⟩ -
  cases d <;> simp only [seqOf, reduceCtorEq, Option.some.injEq] at hs <;> subst hs
  all_goals
    wp_walk using g_p_halved
    refine ⟨fun m r M' => M' = M ∧ ∃ (pre mid post : List Int) (n : Nat) (x5 : Sl), ks = pre ++ mid ++ post ∧ m = mid.length ∧ (∀ v ∈ pre, v < x) ∧ (∀ v ∈ post, x ≤ v) ∧ n + lkH mid x = lkH ks x ∧
      ∃ lw hg nn : Int, lw = (pre.length : Nat) ∧ hg = ((pre.length + mid.length : Nat) : Int) ∧ nn = (n : Nat) ∧ r = ⟨[.b _ (ks.map .int), .v (.int x), .v (.int lw), .v (.int hg), .v (.int nn), x5], X⟩, ⟨_, rfl, [], ks, [], 0, .n, by simp, rfl, by simp, by simp, by simp, _, _, _, rfl, by simp, rfl, rfl⟩, ?_⟩
    rintro m r M' ⟨rfl, pre, mid, post, n, x5, ek, rfl, hp, hq, hn, lw, hg, nn, e1, e2, e3, rfl⟩
    wp_walk
    by_cases hm : mid.length = 0
    · have hm' : mid = [] := List.length_eq_zero_iff.mp hm
      subst hm'
      rw [List.length_nil] at e2
      rw [if_neg (by omega)]
      wp_walk using af1_p_halved
      have eb : below ks x = pre := by
        rw [ek, List.append_nil]
        unfold below
        rw [List.filter_append, List.filter_eq_self.mpr fun v hv => decide_eq_true (hp v hv), List.filter_eq_nil_iff.mpr fun v hv => ?_, List.append_nil]
        have := hq v hv
        rw [decide_eq_true_eq]
        omega
      rw [eb] at q
      rw [lkH_nil] at hn
      rw [e1, e3, show n = lkH ks x by omega]
      exact q
    · rw [if_pos (by omega)]
      obtain ⟨a, y, b, e, el⟩ := mid_split (row := mid) (by omega)
      subst e
      have eml : (a ++ y :: b).length = a.length + (b.length + 1) := by rw [List.length_append, List.length_cons]
      have eh : (lw + hg) / 2 = ((pre.length + a.length : Nat) : Int) := by omega
      have ei : atI (ks.map D.int) ((pre.length + a.length : Nat) : Int) = some (.int y) := by
        refine atI_nat (by omega) ?_
        rw [List.getElem?_map, ek, show (((pre.length + a.length : Nat) : Int)).toNat = pre.length + a.length by omega, List.append_assoc, List.getElem?_append_right (by omega), Nat.add_sub_cancel_left, List.append_assoc, List.getElem?_append_right (Nat.le_refl _), Nat.sub_self]
        rfl
      rw [lkH_mid el] at hn
      rw [eml] at e2
      have hs : (a ++ y :: b).Pairwise (· < ·) := by
        rw [ek, List.append_assoc] at hk
        exact (List.pairwise_append.mp (List.pairwise_append.mp hk).2.1).1
      obtain ⟨-, hs2, hs3⟩ := List.pairwise_append.mp hs
      obtain ⟨hs4, -⟩ := List.pairwise_cons.mp hs2
      wp_walk using lp1_p_halved, eh, ei
      by_cases hy : y < x
      · rw [if_pos hy] at hn ⊢
        refine ⟨⟨by decide, by decide⟩, b.length, by omega, pre ++ a ++ [y], b, post, n + 1, _, by rw [ek]; simp, rfl, fun v hv => ?_, hq, by omega, _, _, _, ?_, ?_, ?_, rfl⟩
        · rcases List.mem_append.mp hv with hv | hv
          · rcases List.mem_append.mp hv with hv | hv
            · exact hp v hv
            · have := hs3 v hv y (List.mem_cons_self ..)
              omega
          · rw [List.mem_singleton.mp hv]
            exact hy
        · rw [List.length_append, List.length_append, List.length_singleton]
          omega
        · rw [List.length_append, List.length_append, List.length_singleton]
          omega
        · omega
      · rw [if_neg hy] at hn ⊢
        refine ⟨⟨by decide, by decide⟩, a.length, by omega, pre, a, y :: b ++ post, n + 1, _, by rw [ek]; simp, rfl, hp, fun v hv => ?_, by omega, _, _, _, ?_, ?_, ?_, rfl⟩
        · rcases List.mem_append.mp hv with hv | hv
          · rcases List.mem_cons.mp hv with rfl | hv
            · omega
            · have := hs4 v hv
              omega
          · exact hq v hv
        · exact e1
        · omega
        · omega

theorem srt_lt {ks ns : List Int} (hp : ks.Perm ns) (hn : ns.Nodup) (h : ks.Pairwise (· ≤ ·)) : ks.Pairwise (· < ·) := by
  have hk : ks.Nodup := hp.nodup_iff.mpr hn
  exact (List.pairwise_and_iff.mpr ⟨h, hk⟩).imp fun ⟨h1, h2⟩ => by omega
/-- the things, rising -/
def srt (ns : List Int) : List Int := ns.mergeSort fun a b => decide (a ≤ b)
theorem srt_perm (ns : List Int) : (srt ns).Perm ns := List.mergeSort_perm _ _
theorem srt_pair (ns : List Int) : (srt ns).Pairwise (· ≤ ·) := (List.pairwise_mergeSort (le := fun a b : Int => decide (a ≤ b)) (fun a b c h1 h2 => by rw [decide_eq_true_eq] at h1 h2 ⊢; omega) (fun a b => by simp only [Bool.or_eq_true, decide_eq_true_eq]; omega) ns).imp fun h => of_decide_eq_true h
theorem srt_lts {ns : List Int} (hn : ns.Nodup) : (srt ns).Pairwise (· < ·) := srt_lt (srt_perm ns) hn (srt_pair ns)
theorem srt_eq {ks ns : List Int} (hp : ks.Perm ns) (h : ks.Pairwise (· ≤ ·)) : ks = srt ns :=
  List.Perm.eq_of_pairwise (le := (· ≤ ·)) (fun a b _ _ h1 h2 => Int.le_antisymm h1 h2) h (srt_pair ns) (hp.trans (srt_perm ns).symm)
theorem srt_len (ns : List Int) : (srt ns).length = ns.length := (srt_perm ns).length_eq
theorem srt_mem {ns : List Int} {x : Int} : x ∈ srt ns ↔ x ∈ ns := (srt_perm ns).mem_iff
theorem SetN.srt {ns : List Int} (h : SetN ns) : SetN (srt ns) := ⟨by rw [srt_len]; exact h.len, fun n hn => h.rng n (srt_mem.mp hn), (srt_perm ns).nodup_iff.mpr h.nd⟩
theorem below_perm {ks ns : List Int} (h : ks.Perm ns) (x : Int) : (below ks x).length = (below ns x).length := (h.filter _).length_eq
theorem above_perm {ks ns : List Int} (h : ks.Perm ns) (x : Int) : (above ks x).length = (above ns x).length := (h.filter _).length_eq
/-! a set's things kept in one list, rising -/
def KeptAt (K : PySem.W.Frag) (C : PySem.Str) (M : Mem) (a l : Addr) (ks : List Int) : Prop := M a = some (.ins (He.ga K C) [("kept", .v (.ref l))]) ∧ M l = some (.om (.lst (ks.map .int))) ∧ Cls K (He.ga K C) ∧ NoAttr K (He.ga K C) "kept"
theorem KeptAt.put {C : PySem.Str} {M : Mem} {a l : Addr} {ns : List Int} (h : KeptAt K C M a l ns) (ms : List Int) : KeptAt K C (mup M l (.om (.lst (ms.map .int)))) a l ms := by
  obtain ⟨h1, h2, h3, h4⟩ := h
  have nal : a ≠ l := fun e => by rw [e, h2] at h1; cases h1
  exact ⟨by rw [mup_ne nal]; exact h1, mup_same, h3, h4⟩
/-- looks of found: the end of the row is told without one -/
def fnd (lk : List Int → Int → Nat) (ks : List Int) (x : Int) : Int := 1 + (lk ks x : Nat) + (if above ks x = [] then 0 else 1)
theorem above_sorted {x : Int} {ks : List Int} (h : ks.Pairwise (· < ·)) : (above ks x).Pairwise (· < ·) := h.sublist List.filter_sublist
theorem mem_above {x : Int} {ks : List Int} : x ∈ above ks x ↔ x ∈ ks := by
  unfold above
  rw [List.mem_filter, decide_eq_true_eq]
  exact ⟨fun h => h.1, fun h => ⟨h, Int.le_refl _⟩⟩
theorem split_len {ks : List Int} (x : Int) (hk : ks.Pairwise (· < ·)) : ks.length = (below ks x).length + (above ks x).length := by
  have es := srt_split (x := x) hk
  conv => lhs; rw [es]
  exact List.length_append
theorem atI_below {ks hi : List Int} {x y : Int} (hk : ks.Pairwise (· < ·)) (ea : above ks x = y :: hi) : atI (ks.map D.int) ((below ks x).length : Nat) = some (.int y) := by
  have es := srt_split (x := x) hk
  refine atI_nat (by omega) ?_
  rw [List.getElem?_map, show (((below ks x).length : Nat) : Int).toNat = (below ks x).length by omega, es, ea]
  rw [show (below (below ks x ++ y :: hi) x).length = (below ks x).length by rw [← ea, ← es]]
  rw [List.getElem?_append_right (Nat.le_refl _), Nat.sub_self]
  rfl
theorem above_head {ks hi : List Int} {x y : Int} (hk : ks.Pairwise (· < ·)) (ea : above ks x = y :: hi) : y ∈ ks ∧ x ≤ y ∧ ∀ z ∈ hi, y < z := by
  have h2 := above_sorted (x := x) hk
  rw [ea] at h2
  have h4 : y ∈ above ks x := by rw [ea]; exact List.mem_cons_self ..
  obtain ⟨h5, h6⟩ := List.mem_filter.mp h4
  exact ⟨h5, of_decide_eq_true h6, (List.pairwise_cons.mp h2).1⟩
theorem above_in {ks hi : List Int} {x y : Int} (hk : ks.Pairwise (· < ·)) (ea : above ks x = y :: hi) : decide (y = x) = decide (x ∈ ks) := by
  obtain ⟨h1, h2, h3⟩ := above_head hk ea
  rw [Bool.eq_iff_iff, decide_eq_true_eq, decide_eq_true_eq, ← mem_above, ea]
  constructor
  · rintro rfl
    exact List.mem_cons_self ..
  · intro h
    rcases List.mem_cons.mp h with h | h
    · exact h.symm
    · have := h3 x h
      omega
theorem take_below {ks : List Int} {x : Int} (hk : ks.Pairwise (· < ·)) : ks.take (below ks x).length = below ks x := by
  have e : (below ks x ++ above ks x).take (below ks x).length = below ks x := List.take_left
  rw [← srt_split hk] at e
  exact e
theorem drop_below {ks : List Int} {x : Int} (hk : ks.Pairwise (· < ·)) : ks.drop (below ks x).length = above ks x := by
  have e : (below ks x ++ above ks x).drop (below ks x).length = above ks x := List.drop_left
  rw [← srt_split hk] at e
  exact e
theorem above_least {ks hi : List Int} {x y : Int} (hk : ks.Pairwise (· < ·)) (ea : above ks x = y :: hi) : leastFrom ks x = y := by
  obtain ⟨h1, h2, h3⟩ := above_head hk ea
  unfold leastFrom mnD
  have ea' : (ks.filter fun n => decide (x ≤ n)) = y :: hi := ea
  rw [ea', if_neg (List.cons_ne_nil _ _)]
  exact (mn_eq (List.mem_cons_self ..) fun z hz => by
    rcases List.mem_cons.mp hz with rfl | hz
    · exact Int.le_refl _
    · exact Int.le_of_lt (h3 z hz)).symm
theorem above_none {ks : List Int} {x : Int} (ea : above ks x = []) : leastFrom ks x = -1 := by
  unfold leastFrom mnD
  have ea' : (ks.filter fun n => decide (x ≤ n)) = [] := ea
  rw [ea', if_pos rfl]
/-- a deed of a kept set: what is asked about may be anything -/
def keptF (K : PySem.W.Frag) (C : PySem.Str) (body : Addr → Addr → List Int → Int → Mem → (D → Mem → Prop) → (Addr → Mem → Prop) → Prop) : FS := fun ds M Q X => ∃ a l ks d, ds = [.ref a, d] ∧ KeptAt K C M a l ks ∧ SetN ks ∧ ks.Pairwise (· < ·) ∧ d.da = true ∧ (isThing d = false → X (He.ga K "NoDeed") M) ∧ ∀ x, d = .int x → 0 ≤ x → x ≤ 999999 → body a l ks x M Q X
theorem keptF_mono {K : PySem.W.Frag} {C : PySem.Str} {body : Addr → Addr → List Int → Int → Mem → (D → Mem → Prop) → (Addr → Mem → Prop) → Prop} (hb : ∀ a l ks x M Q Q' X X', (∀ d M', Q d M' → Q' d M') → (∀ C M', X C M' → X' C M') → body a l ks x M Q X → body a l ks x M Q' X') : MonoF (keptF K C body) := fun _ _ _ _ _ _ h hx ⟨a, l, ks, d, e, c, c2, c3, c4, q, q2⟩ => ⟨a, l, ks, d, e, c, c2, c3, c4, fun z => hx _ _ (q z), fun x e h0 h1 => hb _ _ _ _ _ _ _ _ _ h hx (q2 x e h0 h1)⟩

def fs_Line___init__ (K : PySem.W.Frag) : FS := fun ds M Q X => ∃ a d, ds = [.ref a, d] ∧ M a = some (.ins (He.ga K "Line") []) ∧ Cls K (He.ga K "Line") ∧ NoAttr K (He.ga K "Line") "kept" ∧ d.da = true ∧ (isSetB d = false → X (He.ga K "NoThings") M) ∧
  ∀ (ns : List Int) (l : Addr), d = .tup (ns.map .int) → SetN ns → M l = none → Q .non (mup (mup M l (.om (.lst ((srt ns).map .int)))) a (.ins (He.ga K "Line") [("kept", .v (.ref l))]))
theorem mo_Line___init__ {K : PySem.W.Frag} : MonoF (fs_Line___init__ K) := fun _ _ _ _ _ _ h hx ⟨a, d, e, c, c2, c3, c4, q, q2⟩ => ⟨a, d, e, c, c2, c3, c4, fun z => hx _ _ (q z), fun ns l z1 z2 z3 => h _ _ (q2 ns l z1 z2 z3)⟩
def Fk_Line (K : PySem.W.Frag) : Prop := Cls K (He.ga K "Line") ∧ NoAttr K (He.ga K "Line") "kept"
/-- Line.__init__ -/
def g_Line___init__ (K : PySem.W.Frag) : GS := gSeq (gDrop (gCallP (fs_p_need_set K) (gCons (gV 1) gNil))) (gPutFM K "kept" (gV 0) (gFsort (gV 1)))
theorem h_Line___init__ {K : PySem.W.Frag} : ∀ ds M Q X, (fs_Line___init__ K) ds M Q X → ds.length = ([.v, .v] : List AK).length → g_Line___init__ K { nx := fun _ M' => Q .non M', rt := Q } (entry 2 [.v, .v] ds X) M := by
  rintro ds M Q X ⟨a, d, rfl, ma, hc, hn, hd, q, q2⟩ -
  wp_walk using g_Line___init__
  refine ⟨d, rfl, hd, fun h => ?_, q⟩
  obtain ⟨ns, rfl, hs⟩ := isSetB_iff.mp h
  wp_walk
  intro ks hp hk l nl
  have nal : a ≠ l := fun e => by rw [e, nl] at ma; cases ma
  rw [mup_ne nal, ma, srt_eq hp hk]
  exact ⟨⟨hc, hn⟩, by simp, q2 ns l rfl hs nl⟩
def fs_Line_reached (K : PySem.W.Frag) : FS := fun ds M Q _ => ∃ (a l : Addr) (ks : List Int) (x : Int), ds = [.ref a, .int x] ∧ KeptAt K "Line" M a l ks ∧ ks.length ≤ 1000 ∧ ks.Pairwise (· < ·) ∧ Q (.tup [.int ((below ks x).length : Nat), .int (lkH ks x : Nat)]) M
theorem mo_Line_reached {K : PySem.W.Frag} : MonoF (fs_Line_reached K) := fun _ _ _ _ _ _ h _ ⟨a, l, ks, x, e, c, c2, c3, q⟩ => ⟨a, l, ks, x, e, c, c2, c3, h _ _ q⟩
/-- Line.reached -/
def g_Line_reached (K : PySem.W.Frag) : GS := gRet (gCallP (fs_p_halved K) (gCons (gDrf (gFld K "kept" (gV 0))) (gCons (gV 1) gNil)))
theorem h_Line_reached {K : PySem.W.Frag} : ∀ ds M Q X, (fs_Line_reached K) ds M Q X → ds.length = ([.v, .v] : List AK).length → g_Line_reached K { nx := fun _ M' => Q .non M', rt := Q } (entry 2 [.v, .v] ds X) M := by
  rintro ds M Q X ⟨a, l, ks, x, rfl, ⟨ma, ml, hc, hn⟩, hl, hk, q⟩ -
  wp_walk using g_Line_reached, ma, ml, hc, hn, lk_kept
  exact ⟨_, ks, x, rfl, rfl, hl, hk, q⟩
def fs_Line_found (K : PySem.W.Frag) : FS := fun ds M Q _ => ∃ (a l : Addr) (ks : List Int) (x : Int), ds = [.ref a, .int x] ∧ KeptAt K "Line" M a l ks ∧ ks.length ≤ 1000 ∧ ks.Pairwise (· < ·) ∧ Q (.tup [.int ((below ks x).length : Nat), .bl (decide (x ∈ ks)), .int (fnd lkH ks x)]) M
theorem mo_Line_found {K : PySem.W.Frag} : MonoF (fs_Line_found K) := fun _ _ _ _ _ _ h _ ⟨a, l, ks, x, e, c, c2, c3, q⟩ => ⟨a, l, ks, x, e, c, c2, c3, h _ _ q⟩
/-- Line.found -/
def af1_Line_found (K : PySem.W.Frag) : GS := gRet (gTup (gCons (gV 2) (gCons (g2 goEqA (g2 goIx (gDrf (gFld K "kept" (gV 0))) (gV 2)) (gV 1)) (gCons (g2 goAdd (gC (.int 2)) (gV 3)) gNil))))
def g_Line_found (K : PySem.W.Frag) : GS := gSeq (gAsg (gMeth "reached" [(He.ga K "Line", fs_Line_reached K)] (gV 0) (gCons (gV 1) gNil)) (gtTup (gtCons (gtN 2) (gtCons (gtN 3) gtNil)) 2)) (gSeq (gIfS (gB (g2 goEqA (gV 2) (gCa gcLen (gCons (gDrf (gFld K "kept" (gV 0))) gNil)))) (gRet (gTup (gCons (gV 2) (gCons (gC (.bl false)) (gCons (g2 goAdd (gC (.int 1)) (gV 3)) gNil))))) (gNext)) (af1_Line_found K))
theorem h_Line_found {K : PySem.W.Frag} : ∀ ds M Q X, (fs_Line_found K) ds M Q X → ds.length = ([.v, .v] : List AK).length → g_Line_found K { nx := fun _ M' => Q .non M', rt := Q } (entry 4 [.v, .v] ds X) M := by
  rintro ds M Q X ⟨a, l, ks, x, rfl, hh, hl, hk, q⟩ -
  obtain ⟨ma, ml, hc, hn⟩ := id hh
  wp_walk using g_Line_found, ma, ml, hc, hn, lk_kept
  refine ⟨rfl, _, List.mem_cons_self .., a, l, ks, x, rfl, hh, hl, hk, ?_⟩
  wp_walk using ma, ml, hc, hn, lk_kept
  have el := split_len x hk
  unfold fnd at q
  cases ea : above ks x with
  | nil =>
    rw [ea] at el
    rw [List.length_nil] at el
    rw [if_pos ea] at q
    have hx : ¬ x ∈ ks := fun h => by rw [← mem_above, ea] at h; cases h
    rw [decide_eq_false hx] at q
    rw [if_pos (by omega)]
    simpa using q
  | cons y hi =>
    rw [ea] at el
    rw [List.length_cons] at el
    rw [if_neg (by rw [ea]; exact List.cons_ne_nil _ _)] at q
    rw [if_neg (by omega)]
    have ei := atI_below hk ea
    wp_walk using af1_Line_found, ma, ml, hc, hn, lk_kept, ei
    rw [above_in hk ea, show (2 + ((lkH ks x : Nat) : Int)) = 1 + (lkH ks x : Nat) + 1 by omega]
    exact q
def miL (ks : List Int) (p : Int) : Int := 1 + (ks.length : Nat) - p
def moL (ks : List Int) (p : Int) : Int := (ks.length : Nat) - p - 1
def fs_Line_moves_in (K : PySem.W.Frag) : FS := fun ds M Q _ => ∃ (a l : Addr) (ks : List Int) (p : Int), ds = [.ref a, .int p] ∧ KeptAt K "Line" M a l ks ∧ ks.length ≤ 1000 ∧ 0 ≤ p ∧ p ≤ (ks.length : Nat) ∧ Q (.int (miL ks p)) M
theorem mo_Line_moves_in {K : PySem.W.Frag} : MonoF (fs_Line_moves_in K) := fun _ _ _ _ _ _ h _ ⟨a, l, ks, p, e, c, c2, c3, c4, q⟩ => ⟨a, l, ks, p, e, c, c2, c3, c4, h _ _ q⟩
/-- Line.moves_in -/
def g_Line_moves_in (K : PySem.W.Frag) : GS := gRet (g2 goSub (g2 goAdd (gC (.int 1)) (gCa gcLen (gCons (gDrf (gFld K "kept" (gV 0))) gNil))) (gV 1))
theorem h_Line_moves_in {K : PySem.W.Frag} : ∀ ds M Q X, (fs_Line_moves_in K) ds M Q X → ds.length = ([.v, .v] : List AK).length → g_Line_moves_in K { nx := fun _ M' => Q .non M', rt := Q } (entry 2 [.v, .v] ds X) M := by
  rintro ds M Q X ⟨a, l, ks, p, rfl, ⟨ma, ml, hc, hn⟩, -, -, -, q⟩ -
  wp_walk using g_Line_moves_in, ma, ml, hc, hn, lk_kept
  exact q
def fs_Line_moves_out (K : PySem.W.Frag) : FS := fun ds M Q _ => ∃ (a l : Addr) (ks : List Int) (p : Int), ds = [.ref a, .int p] ∧ KeptAt K "Line" M a l ks ∧ ks.length ≤ 1000 ∧ 0 ≤ p ∧ p ≤ (ks.length : Nat) ∧ Q (.int (moL ks p)) M
theorem mo_Line_moves_out {K : PySem.W.Frag} : MonoF (fs_Line_moves_out K) := fun _ _ _ _ _ _ h _ ⟨a, l, ks, p, e, c, c2, c3, c4, q⟩ => ⟨a, l, ks, p, e, c, c2, c3, c4, h _ _ q⟩
/-- Line.moves_out -/
def g_Line_moves_out (K : PySem.W.Frag) : GS := gRet (g2 goSub (g2 goSub (gCa gcLen (gCons (gDrf (gFld K "kept" (gV 0))) gNil)) (gV 1)) (gC (.int 1)))
theorem h_Line_moves_out {K : PySem.W.Frag} : ∀ ds M Q X, (fs_Line_moves_out K) ds M Q X → ds.length = ([.v, .v] : List AK).length → g_Line_moves_out K { nx := fun _ M' => Q .non M', rt := Q } (entry 2 [.v, .v] ds X) M := by
  rintro ds M Q X ⟨a, l, ks, p, rfl, ⟨ma, ml, hc, hn⟩, -, -, -, q⟩ -
  wp_walk using g_Line_moves_out, ma, ml, hc, hn, lk_kept
  exact q
def fs_Line_form (K : PySem.W.Frag) : FS := fun ds M Q _ => ∃ (a l : Addr) (ks : List Int), ds = [.ref a] ∧ KeptAt K "Line" M a l ks ∧ ks.length ≤ 1000 ∧ Q (.tup (ks.map .int)) M
theorem mo_Line_form {K : PySem.W.Frag} : MonoF (fs_Line_form K) := fun _ _ _ _ _ _ h _ ⟨a, l, ks, e, c, c2, q⟩ => ⟨a, l, ks, e, c, c2, h _ _ q⟩
/-- Line.form -/
def g_Line_form (K : PySem.W.Frag) : GS := gRet (gCa gcTuple (gCons (gDrf (gFld K "kept" (gV 0))) gNil))
theorem h_Line_form {K : PySem.W.Frag} : ∀ ds M Q X, (fs_Line_form K) ds M Q X → ds.length = ([.v] : List AK).length → g_Line_form K { nx := fun _ M' => Q .non M', rt := Q } (entry 1 [.v] ds X) M := by
  rintro ds M Q X ⟨a, l, ks, rfl, ⟨ma, ml, hc, hn⟩, hl, q⟩ -
  wp_walk using g_Line_form, ma, ml, hc, hn, lk_kept
  exact q
def fs_Line_has (K : PySem.W.Frag) : FS := keptF K "Line" fun a l ks x M Q X => Q (.tup [.int (if x ∈ ks then 1 else 0), .int (fnd lkH ks x)]) M
theorem mo_Line_has {K : PySem.W.Frag} : MonoF (fs_Line_has K) := keptF_mono fun _ _ _ _ _ _ _ _ _ h hx q => h _ _ q
/-- Line.has -/
def g_Line_has (K : PySem.W.Frag) : GS := gSeq (gDrop (gCallP (fs_p_need_member K) (gCons (gV 1) gNil))) (gSeq (gAsg (gMeth "found" [(He.ga K "Line", fs_Line_found K)] (gV 0) (gCons (gV 1) gNil)) (gtTup (gtCons (gtN 2) (gtCons (gtN 3) (gtCons (gtN 4) gtNil))) 3)) (gRet (gTup (gCons (gCa gcInt (gCons (gV 3) gNil)) (gCons (gV 4) gNil)))))
theorem h_Line_has {K : PySem.W.Frag} : ∀ ds M Q X, (fs_Line_has K) ds M Q X → ds.length = ([.v, .v] : List AK).length → g_Line_has K { nx := fun _ M' => Q .non M', rt := Q } (entry 5 [.v, .v] ds X) M := by
  rintro ds M Q X ⟨a, l, ks, d, rfl, hh, hs, hk, hd, q, q2⟩ -
  obtain ⟨ma, ml, hc, hn⟩ := id hh
  have hl := hs.len
  wp_walk using g_Line_has
  refine ⟨d, rfl, hd, fun h => ?_, q⟩
  obtain ⟨x, rfl, x0, x1⟩ := isThing_int h
  have q2 := q2 x rfl x0 x1
  wp_walk using ma
  refine ⟨rfl, _, List.mem_cons_self .., a, l, ks, x, rfl, hh, by omega, hk, ?_⟩
  wp_walk
  simpa using q2
def fs_Line_rank (K : PySem.W.Frag) : FS := keptF K "Line" fun a l ks x M Q X => Q (.tup [.int ((below ks x).length : Nat), .int (1 + (lkH ks x : Nat))]) M
theorem mo_Line_rank {K : PySem.W.Frag} : MonoF (fs_Line_rank K) := keptF_mono fun _ _ _ _ _ _ _ _ _ h hx q => h _ _ q
/-- Line.rank -/
def g_Line_rank (K : PySem.W.Frag) : GS := gSeq (gDrop (gCallP (fs_p_need_member K) (gCons (gV 1) gNil))) (gSeq (gAsg (gMeth "reached" [(He.ga K "Line", fs_Line_reached K)] (gV 0) (gCons (gV 1) gNil)) (gtTup (gtCons (gtN 2) (gtCons (gtN 3) gtNil)) 2)) (gRet (gTup (gCons (gV 2) (gCons (g2 goAdd (gC (.int 1)) (gV 3)) gNil)))))
theorem h_Line_rank {K : PySem.W.Frag} : ∀ ds M Q X, (fs_Line_rank K) ds M Q X → ds.length = ([.v, .v] : List AK).length → g_Line_rank K { nx := fun _ M' => Q .non M', rt := Q } (entry 4 [.v, .v] ds X) M := by
  rintro ds M Q X ⟨a, l, ks, d, rfl, hh, hs, hk, hd, q, q2⟩ -
  obtain ⟨ma, ml, hc, hn⟩ := id hh
  have hl := hs.len
  wp_walk using g_Line_rank
  refine ⟨d, rfl, hd, fun h => ?_, q⟩
  obtain ⟨x, rfl, x0, x1⟩ := isThing_int h
  have q2 := q2 x rfl x0 x1
  wp_walk using ma
  refine ⟨rfl, _, List.mem_cons_self .., a, l, ks, x, rfl, hh, by omega, hk, ?_⟩
  wp_walk
  exact q2
def fs_Line_next_from (K : PySem.W.Frag) : FS := keptF K "Line" fun a l ks x M Q X => Q (.tup [.int (leastFrom ks x), .int (fnd lkH ks x)]) M
theorem mo_Line_next_from {K : PySem.W.Frag} : MonoF (fs_Line_next_from K) := keptF_mono fun _ _ _ _ _ _ _ _ _ h hx q => h _ _ q
/-- Line.next_from -/
def g_Line_next_from (K : PySem.W.Frag) : GS := gSeq (gDrop (gCallP (fs_p_need_member K) (gCons (gV 1) gNil))) (gSeq (gAsg (gMeth "found" [(He.ga K "Line", fs_Line_found K)] (gV 0) (gCons (gV 1) gNil)) (gtTup (gtCons (gtN 2) (gtCons (gtN 3) (gtCons (gtN 4) gtNil))) 3)) (gRet (gTup (gCons (g2 goIx (g2 goAddW (gDrf (gFld K "kept" (gV 0))) (gLst (gCons (g1 guNeg (gC (.int 1))) gNil))) (gV 2)) (gCons (gV 4) gNil)))))
theorem h_Line_next_from {K : PySem.W.Frag} : ∀ ds M Q X, (fs_Line_next_from K) ds M Q X → ds.length = ([.v, .v] : List AK).length → g_Line_next_from K { nx := fun _ M' => Q .non M', rt := Q } (entry 5 [.v, .v] ds X) M := by
  rintro ds M Q X ⟨a, l, ks, d, rfl, hh, hs, hk, hd, q, q2⟩ -
  obtain ⟨ma, ml, hc, hn⟩ := id hh
  have hl := hs.len
  wp_walk using g_Line_next_from
  refine ⟨d, rfl, hd, fun h => ?_, q⟩
  obtain ⟨x, rfl, x0, x1⟩ := isThing_int h
  have q2 := q2 x rfl x0 x1
  wp_walk using ma
  refine ⟨rfl, _, List.mem_cons_self .., a, l, ks, x, rfl, hh, by omega, hk, ?_⟩
  wp_walk using ma, ml, hc, hn, lk_kept
  refine ⟨size_of (by simp; omega), ?_⟩
  have el := split_len x hk
  have ei : atI (ks.map D.int ++ [.int (-1)]) ((below ks x).length : Nat) = some (.int (leastFrom ks x)) := by
    refine atI_nat (by omega) ?_
    rw [show (((below ks x).length : Nat) : Int).toNat = (below ks x).length by omega]
    cases ea : above ks x with
    | nil =>
      rw [above_none ea, List.getElem?_append_right (by rw [List.length_map, el, ea]; exact Nat.le_refl _), List.length_map, el, ea, List.length_nil, Nat.add_zero, Nat.sub_self]
      rfl
    | cons y hi =>
      have e2 := atI_below hk ea
      rw [above_least hk ea, List.getElem?_append_left (by rw [List.length_map, el, ea, List.length_cons]; omega), List.getElem?_map]
      have e3 : ks = below ks x ++ y :: hi := by rw [← ea]; exact srt_split hk
      have e4 : ks[(below ks x).length]? = some y := by
        conv => lhs; arg 1; rw [e3]
        rw [List.getElem?_append_right (Nat.le_refl _), Nat.sub_self]
        rfl
      rw [e4]
      rfl
  wp_walk using ei
  exact q2
def fs_Line_put (K : PySem.W.Frag) : FS := keptF K "Line" fun a l ks x M Q X => (x ∈ ks → Q (.tup [.int 0, .int (fnd lkH ks x)]) M) ∧ (x ∉ ks → ks.length = 40 → X (He.ga K "TooMany") M) ∧ (x ∉ ks → ks.length ≠ 40 → Q (.tup [.int 1, .int (fnd lkH ks x + miL ks ((below ks x).length : Nat))]) (mup M l (.om (.lst ((below ks x ++ x :: above ks x).map .int)))))
theorem mo_Line_put {K : PySem.W.Frag} : MonoF (fs_Line_put K) := keptF_mono fun _ _ _ _ _ _ _ _ _ h hx ⟨q1, q2, q3⟩ => ⟨fun z => h _ _ (q1 z), fun z z2 => hx _ _ (q2 z z2), fun z z2 => h _ _ (q3 z z2)⟩
/-- Line.put -/
def af1_Line_put (K : PySem.W.Frag) : GS := gSeq (gDrop (gCallP (fs_p_need_place K) (gCons (gDrf (gFld K "kept" (gV 0))) gNil))) (gSeq (gSet 4 (g2 goAdd (gV 4) (gMeth "moves_in" [(He.ga K "Line", fs_Line_moves_in K)] (gV 0) (gCons (gV 2) gNil)))) (gSeq (gMIns (gFld K "kept" (gV 0)) (gCons (gV 2) (gCons (gV 1) gNil))) (gRet (gTup (gCons (gC (.int 1)) (gCons (gV 4) gNil))))))
def g_Line_put (K : PySem.W.Frag) : GS := gSeq (gDrop (gCallP (fs_p_need_member K) (gCons (gV 1) gNil))) (gSeq (gAsg (gMeth "found" [(He.ga K "Line", fs_Line_found K)] (gV 0) (gCons (gV 1) gNil)) (gtTup (gtCons (gtN 2) (gtCons (gtN 3) (gtCons (gtN 4) gtNil))) 3)) (gSeq (gIfS (gTru (gV 3)) (gRet (gTup (gCons (gC (.int 0)) (gCons (gV 4) gNil)))) (gNext)) (af1_Line_put K)))
theorem h_Line_put {K : PySem.W.Frag} : ∀ ds M Q X, (fs_Line_put K) ds M Q X → ds.length = ([.v, .v] : List AK).length → g_Line_put K { nx := fun _ M' => Q .non M', rt := Q } (entry 5 [.v, .v] ds X) M := by
  rintro ds M Q X ⟨a, l, ks, d, rfl, hh, hs, hk, hd, q, q2⟩ -
  obtain ⟨ma, ml, hc, hn⟩ := id hh
  have hl := hs.len
  wp_walk using g_Line_put
  refine ⟨d, rfl, hd, fun h => ?_, q⟩
  obtain ⟨x, rfl, x0, x1⟩ := isThing_int h
  obtain ⟨q1, q2, q3⟩ := q2 x rfl x0 x1
  wp_walk using ma
  refine ⟨rfl, _, List.mem_cons_self .., a, l, ks, x, rfl, hh, by omega, hk, ?_⟩
  by_cases h : x ∈ ks
  · wp_walk using h
    exact q1 h
  · wp_walk using h, af1_Line_put, ma, ml, hc, hn, lk_kept
    refine ⟨.lst (ks.map .int), ks.map .int, rfl, rfl, fun z => ?_, fun z => q2 h (by simpa using z)⟩
    have el := split_len x hk
    wp_walk using ma
    refine ⟨rfl, _, List.mem_cons_self .., a, l, ks, _, rfl, hh, by omega, by omega, by omega, ?_⟩
    wp_walk using ma, ml, hc, hn, lk_kept
    refine ⟨⟨by omega, by omega, size_lt (by omega)⟩, ?_⟩
    rw [← List.map_take, ← List.map_drop, take_below hk, drop_below hk]
    have q4 := q3 h (by simpa using z)
    rw [List.map_append, List.map_cons] at q4
    rw [List.append_assoc]
    exact q4
def fs_Line_take (K : PySem.W.Frag) : FS := keptF K "Line" fun a l ks x M Q X => (x ∉ ks → Q (.tup [.int 0, .int (fnd lkH ks x)]) M) ∧ (x ∈ ks → Q (.tup [.int 1, .int (fnd lkH ks x + moL ks ((below ks x).length : Nat))]) (mup M l (.om (.lst ((ks.eraseIdx (below ks x).length).map .int)))))
theorem mo_Line_take {K : PySem.W.Frag} : MonoF (fs_Line_take K) := keptF_mono fun _ _ _ _ _ _ _ _ _ h hx ⟨q1, q2⟩ => ⟨fun z => h _ _ (q1 z), fun z => h _ _ (q2 z)⟩
/-- Line.take -/
def af1_Line_take (K : PySem.W.Frag) : GS := gSeq (gSet 4 (g2 goAdd (gV 4) (gMeth "moves_out" [(He.ga K "Line", fs_Line_moves_out K)] (gV 0) (gCons (gV 2) gNil)))) (gSeq (gDrop (gMPop (gFld K "kept" (gV 0)) (gV 2))) (gRet (gTup (gCons (gC (.int 1)) (gCons (gV 4) gNil)))))
def g_Line_take (K : PySem.W.Frag) : GS := gSeq (gDrop (gCallP (fs_p_need_member K) (gCons (gV 1) gNil))) (gSeq (gAsg (gMeth "found" [(He.ga K "Line", fs_Line_found K)] (gV 0) (gCons (gV 1) gNil)) (gtTup (gtCons (gtN 2) (gtCons (gtN 3) (gtCons (gtN 4) gtNil))) 3)) (gSeq (gIfS (gNot (gTru (gV 3))) (gRet (gTup (gCons (gC (.int 0)) (gCons (gV 4) gNil)))) (gNext)) (af1_Line_take K)))
theorem h_Line_take {K : PySem.W.Frag} : ∀ ds M Q X, (fs_Line_take K) ds M Q X → ds.length = ([.v, .v] : List AK).length → g_Line_take K { nx := fun _ M' => Q .non M', rt := Q } (entry 5 [.v, .v] ds X) M := by
  rintro ds M Q X ⟨a, l, ks, d, rfl, hh, hs, hk, hd, q, q2⟩ -
  obtain ⟨ma, ml, hc, hn⟩ := id hh
  have hl := hs.len
  wp_walk using g_Line_take
  refine ⟨d, rfl, hd, fun h => ?_, q⟩
  obtain ⟨x, rfl, x0, x1⟩ := isThing_int h
  obtain ⟨q1, q2⟩ := q2 x rfl x0 x1
  wp_walk using ma
  refine ⟨rfl, _, List.mem_cons_self .., a, l, ks, x, rfl, hh, by omega, hk, ?_⟩
  by_cases h : x ∈ ks
  · have el := split_len x hk
    have ha : 0 < (above ks x).length := List.length_pos_of_mem (mem_above.mpr h)
    wp_walk using h, af1_Line_take, ma
    refine ⟨rfl, _, List.mem_cons_self .., a, l, ks, _, rfl, hh, by omega, by omega, by omega, ?_⟩
    wp_walk using ma, ml, hc, hn, lk_kept
    have ei := atI_below hk (show above ks x = (above ks x).head (List.length_pos_iff.mp ha) :: (above ks x).tail from (List.cons_head_tail _).symm)
    have eg : (ks.map D.int)[(below ks x).length]? = some (.int ((above ks x).head (List.length_pos_iff.mp ha))) := by
      have e3 : ks = below ks x ++ ((above ks x).head (List.length_pos_iff.mp ha) :: (above ks x).tail) := by rw [List.cons_head_tail]; exact srt_split hk
      rw [List.getElem?_map]
      have e4 : ks[(below ks x).length]? = some ((above ks x).head (List.length_pos_iff.mp ha)) := by
        conv => lhs; arg 1; rw [e3]
        rw [List.getElem?_append_right (Nat.le_refl _), Nat.sub_self]
        rfl
      rw [e4]
      rfl
    rw [eg, erase_mapP]
    refine ⟨⟨by omega, by omega, by omega⟩, ?_⟩
    wp_walk
    exact q2 h
  · wp_walk using h
    exact q1 h
theorem mn_perm {ks ns : List Int} (h : ks.Perm ns) : mnD ks (-1) = mnD ns (-1) := by
  unfold mnD
  by_cases e : ns = []
  · subst e
    rw [List.perm_nil.mp h]
  · have e' : ks ≠ [] := fun z => by subst z; exact e (List.nil_perm.mp h)
    rw [if_neg e, if_neg e', mn_eq (ns := ns) (m := mn ks) (h.mem_iff.mp (mn_mem e')) fun y hy => mn_le (h.mem_iff.mpr hy)]
theorem least_perm {ks ns : List Int} (h : ks.Perm ns) (x : Int) : leastFrom ks x = leastFrom ns x := mn_perm (h.filter _)
theorem srt_put {ns : List Int} {x : Int} (hs : SetN ns) (h : x ∉ ns) : below (srt ns) x ++ x :: above (srt ns) x = srt (ns ++ [x]) := by
  have hk := srt_lts hs.nd
  have es := srt_split (x := x) hk
  refine srt_eq ?_ ?_
  · refine List.perm_middle.trans ?_
    rw [← es]
    exact ((srt_perm ns).cons x).trans (List.perm_append_singleton x ns).symm
  · rw [List.pairwise_append]
    refine ⟨(srt_pair ns).sublist List.filter_sublist, ?_, fun a ha b hb => ?_⟩
    · rw [List.pairwise_cons]
      exact ⟨fun b hb => of_decide_eq_true (List.mem_filter.mp hb).2, (srt_pair ns).sublist List.filter_sublist⟩
    · have h1 : a < x := of_decide_eq_true (List.mem_filter.mp ha).2
      rcases List.mem_cons.mp hb with rfl | hb
      · omega
      · have h2 : x ≤ b := of_decide_eq_true (List.mem_filter.mp hb).2
        omega
theorem srt_take {ns : List Int} {x : Int} (hs : SetN ns) (h : x ∈ ns) : (srt ns).eraseIdx (below (srt ns) x).length = srt (ns.filter fun n => !decide (n = x)) := by
  have hk := srt_lts hs.nd
  have es := srt_split (x := x) hk
  have hm : x ∈ srt ns := srt_mem.mpr h
  have ei : (srt ns).idxOf x = (below (srt ns) x).length := by
    cases ea : above (srt ns) x with
    | nil => rw [← mem_above, ea] at hm; cases hm
    | cons y hi =>
      have ey : y = x := of_decide_eq_true ((above_in hk ea).trans (decide_eq_true hm))
      subst ey
      have hb : y ∉ below (srt ns) y := fun z => by
        have := of_decide_eq_true (List.mem_filter.mp z).2
        omega
      have e2 : (below (srt ns) y ++ y :: hi).idxOf y = (below (srt ns) y).length := by
        rw [List.idxOf_append, if_neg hb, List.idxOf_cons_self, Nat.zero_add]
      rw [← ea, ← es] at e2
      exact e2
  rw [← ei, erase_filter _ _ hs.srt.nd hm]
  exact srt_eq ((srt_perm ns).filter _) ((srt_pair ns).sublist List.filter_sublist)
/-- the steps of a deed on a kept set -/
def stpK (lk : List Int → Int → Nat) (mi mo : List Int → Int → Int) (w : W5) (ns : List Int) (x : Int) : Int := match w with
  | .put => if x ∈ ns then fnd lk (srt ns) x else fnd lk (srt ns) x + mi (srt ns) ((below (srt ns) x).length : Nat)
  | .take => if x ∈ ns then fnd lk (srt ns) x + mo (srt ns) ((below (srt ns) x).length : Nat) else fnd lk (srt ns) x
  | .has => fnd lk (srt ns) x
  | .next => fnd lk (srt ns) x
  | .rank => 1 + (lk (srt ns) x : Nat)
theorem thing_not {x : Int} (x0 : 0 ≤ x) (x1 : x ≤ 999999) (h : isThing (.int x) = false) : False := by
  have h2 : (decide (0 ≤ x) && decide (x ≤ 999999)) = false := h
  rw [decide_eq_true x0, decide_eq_true x1] at h2
  cases h2
theorem tel_put {ns : List Int} {x : Int} : telS .put ns x = if x ∈ ns then 0 else 1 := rfl

end LW
namespace LW
open PySem PySem.Spec PySem.W PyProof.Rows L2 DL
local macro_rules | `(tactic| wp_walk) => `(tactic| simp only [gSeq, gSet, gRet, gRetN, gNext, gIfS, gDrop, gOwn, gApp, gExt, gForM, gLcM, gCnt, gTryV, gTryE, gxP, gxM, DL.Fr.mute, gIPut, gFrz, frz, gAsg, gPar, gPar3, gAug, gRaise, gRetM, gSetM, gMPut, gMGet, g1, g2, gC, gV, gVw, gB, gAnd, gOr, gNot, gNotV, gIf, DL.gCons, DL.gNil, DL.gTup, DL.gLst, gFl, gFd, gCa, gLenS, gPart, gNoP, gDisp, gPcons, gPnil, gtN, gtTup, gtCons, gtNil, gYes, gFor, gLc, giS, gCallP, gCallM, gScr, entry, aSls, aSl, DL.Fr.set, OM.d, wipeF, wipeS, keyD, List.length_cons, List.length_nil, List.cons_append, List.nil_append, List.append_nil, List.replicate_succ, List.replicate_zero, List.getElem?_cons_zero, List.getElem?_cons_succ, List.getElem?_nil, List.set_cons_zero, List.set_cons_succ, Nat.reduceAdd, Nat.reduceSub, if_true, if_false, ite_true, ite_false, reduceIte, Bool.false_eq_true, Bool.not_true, Bool.not_false, List.all_cons, List.all_nil, Bool.and_true, true_and, and_true, List.map_cons, List.map_nil, gIdx, ixT_ints, intsOf_map, Int.reduceToNat, Option.some.injEq, exists_eq_left', goAdd_int, goAdd_str, goAdd_tup, goAdd_lst, goAddW_int, goAddW_lst, goPlus_int, goI_int, guI_int, gcI1_int, goIx_lst, gcLen_lst, gcTupleS_lst, gcList_lst, goRevA_lst, goIx_tup, gcLen_tup, gcTupleS_tup, gcList_tup, goRevA_tup, gcTuple_lst, goIx_str, gcLen_str, gcInt_int, gcInt_bl, goMulT_tup, goMulL_lst, goIsB_bl, goIsN_non, isN_int, isN_bl, isN_str, isN_tup, isN_lst, isN_dic, isN_ref, isN_ty, isN_non, gTru_k, truK_non, truK_bl, truK_int, truK_lst, truK_tup, truK_str, gFlist_k, lstK_lst, lstK_tup, gsSl_k, slK_lst, slK_tup, slK_str, itsD_k, itsK_lst, itsK_tup, giZip_k, zipK_lst, zipK_tup, giR1_k, ran1K_nat, ran1K_int, giR2_k, ran2K_int, goLtA_int, goLtA_tup, ok_non, eqv_bl, goEq_int, goNe_int, goEq_bl, goNe_bl, gcMin_ints, gcMinT_ints, gcMax_ints, gcMaxT_ints, intsOf_mapf, blsOf_mapf, gcMin_f, gcMax_f, gcMin_2, gcMax_2, gcSum_ints, gcSum_f, gcBls_f, all_mapid, any_mapid, at_0, at_1, at_2, at_3, at_last, noOwn_nil, noOwn_1, noOwn_2, nof_n, nof_v, nof_b, nof_s, zipD_map, enumD_map, isi_non_int, isi_non_bool, isi_non_str, isi_non_tuple, isi_non_list, isi_non_dict, isi_bl_int, isi_bl_bool, isi_bl_str, isi_bl_tuple, isi_bl_list, isi_bl_dict, isi_int_int, isi_int_bool, isi_int_str, isi_int_tuple, isi_int_list, isi_int_dict, isi_str_int, isi_str_bool, isi_str_str, isi_str_tuple, isi_str_list, isi_str_dict, isi_tup_int, isi_tup_bool, isi_tup_str, isi_tup_tuple, isi_tup_list, isi_tup_dict, isi_lst_int, isi_lst_bool, isi_lst_str, isi_lst_tuple, isi_lst_list, isi_lst_dict, isi_dic_int, isi_dic_bool, isi_dic_str, isi_dic_tuple, isi_dic_list, isi_dic_dict, gcAll, gcAny, goMod, goFdiv, decide_eq_true_eq, Bool.not_eq_true', decide_eq_false_iff_not, ite_not, Bool.and_eq_true, not_false_eq_true, Bool.not_eq_true, List.map_append, Int.zero_add, List.any_cons, List.any_nil, Bool.true_and, Bool.or_false, Bool.xor_false, Bool.false_xor, Bool.true_xor, Bool.not_not, forall_const, Int.toNat_natCast, List.length_map, List.length_append, and_self, ne_eq, List.map_eq_nil_iff, not_true_eq_false, eq_self, goMulI, goSub, goPow, goLe, goGt, goGe, guNeg, gcAbs, goEq_str, goNe_str, goEq_tup, goNe_tup, goEq_lst, goNe_lst, goEq_non, goNe_non, gAndV_k, gOrV_k, gCh_k, blK_bl, ite_bf, reduceCtorEq, Int.reducePow, Int.reduceLT, Int.reduceLE, Int.reduceNeg, sz0, se0, sz1, se1, sz2, se2, sz3, se3, sz4, se4, sz5, se5, sz6, se6, sz7, se7, sz8, se8, sz9, se9, gFld, fldK_ref, gPutF, gPutFM, putFK_ref, gDrf, drfK_ref, gMApp, mlK_ref, gMPop, popK_int, gMIns, ins2K_2, insK_int, gMeth, mthK_ref, gMake, giR3, gFlR1, gFlR2, rg2K_int, gLenSet, lenSetK_lst, lenSetK_tup, gMinD, minDK_lst, giMem, giBA, gMIdx, goTab, gFsort, sortK_lst, sortK_tup, gStep, stepK_lst])
local macro_rules | `(tactic| wp_walk using $ts,*) => `(tactic| simp only [$[$ts:term],*, gSeq, gSet, gRet, gRetN, gNext, gIfS, gDrop, gOwn, gApp, gExt, gForM, gLcM, gCnt, gTryV, gTryE, gxP, gxM, DL.Fr.mute, gIPut, gFrz, frz, gAsg, gPar, gPar3, gAug, gRaise, gRetM, gSetM, gMPut, gMGet, g1, g2, gC, gV, gVw, gB, gAnd, gOr, gNot, gNotV, gIf, DL.gCons, DL.gNil, DL.gTup, DL.gLst, gFl, gFd, gCa, gLenS, gPart, gNoP, gDisp, gPcons, gPnil, gtN, gtTup, gtCons, gtNil, gYes, gFor, gLc, giS, gCallP, gCallM, gScr, entry, aSls, aSl, DL.Fr.set, OM.d, wipeF, wipeS, keyD, List.length_cons, List.length_nil, List.cons_append, List.nil_append, List.append_nil, List.replicate_succ, List.replicate_zero, List.getElem?_cons_zero, List.getElem?_cons_succ, List.getElem?_nil, List.set_cons_zero, List.set_cons_succ, Nat.reduceAdd, Nat.reduceSub, if_true, if_false, ite_true, ite_false, reduceIte, Bool.false_eq_true, Bool.not_true, Bool.not_false, List.all_cons, List.all_nil, Bool.and_true, true_and, and_true, List.map_cons, List.map_nil, gIdx, ixT_ints, intsOf_map, Int.reduceToNat, Option.some.injEq, exists_eq_left', goAdd_int, goAdd_str, goAdd_tup, goAdd_lst, goAddW_int, goAddW_lst, goPlus_int, goI_int, guI_int, gcI1_int, goIx_lst, gcLen_lst, gcTupleS_lst, gcList_lst, goRevA_lst, goIx_tup, gcLen_tup, gcTupleS_tup, gcList_tup, goRevA_tup, gcTuple_lst, goIx_str, gcLen_str, gcInt_int, gcInt_bl, goMulT_tup, goMulL_lst, goIsB_bl, goIsN_non, isN_int, isN_bl, isN_str, isN_tup, isN_lst, isN_dic, isN_ref, isN_ty, isN_non, gTru_k, truK_non, truK_bl, truK_int, truK_lst, truK_tup, truK_str, gFlist_k, lstK_lst, lstK_tup, gsSl_k, slK_lst, slK_tup, slK_str, itsD_k, itsK_lst, itsK_tup, giZip_k, zipK_lst, zipK_tup, giR1_k, ran1K_nat, ran1K_int, giR2_k, ran2K_int, goLtA_int, goLtA_tup, ok_non, eqv_bl, goEq_int, goNe_int, goEq_bl, goNe_bl, gcMin_ints, gcMinT_ints, gcMax_ints, gcMaxT_ints, intsOf_mapf, blsOf_mapf, gcMin_f, gcMax_f, gcMin_2, gcMax_2, gcSum_ints, gcSum_f, gcBls_f, all_mapid, any_mapid, at_0, at_1, at_2, at_3, at_last, noOwn_nil, noOwn_1, noOwn_2, nof_n, nof_v, nof_b, nof_s, zipD_map, enumD_map, isi_non_int, isi_non_bool, isi_non_str, isi_non_tuple, isi_non_list, isi_non_dict, isi_bl_int, isi_bl_bool, isi_bl_str, isi_bl_tuple, isi_bl_list, isi_bl_dict, isi_int_int, isi_int_bool, isi_int_str, isi_int_tuple, isi_int_list, isi_int_dict, isi_str_int, isi_str_bool, isi_str_str, isi_str_tuple, isi_str_list, isi_str_dict, isi_tup_int, isi_tup_bool, isi_tup_str, isi_tup_tuple, isi_tup_list, isi_tup_dict, isi_lst_int, isi_lst_bool, isi_lst_str, isi_lst_tuple, isi_lst_list, isi_lst_dict, isi_dic_int, isi_dic_bool, isi_dic_str, isi_dic_tuple, isi_dic_list, isi_dic_dict, gcAll, gcAny, goMod, goFdiv, decide_eq_true_eq, Bool.not_eq_true', decide_eq_false_iff_not, ite_not, Bool.and_eq_true, not_false_eq_true, Bool.not_eq_true, List.map_append, Int.zero_add, List.any_cons, List.any_nil, Bool.true_and, Bool.or_false, Bool.xor_false, Bool.false_xor, Bool.true_xor, Bool.not_not, forall_const, Int.toNat_natCast, List.length_map, List.length_append, and_self, ne_eq, List.map_eq_nil_iff, not_true_eq_false, eq_self, goMulI, goSub, goPow, goLe, goGt, goGe, guNeg, gcAbs, goEq_str, goNe_str, goEq_tup, goNe_tup, goEq_lst, goNe_lst, goEq_non, goNe_non, gAndV_k, gOrV_k, gCh_k, blK_bl, ite_bf, reduceCtorEq, Int.reducePow, Int.reduceLT, Int.reduceLE, Int.reduceNeg, sz0, se0, sz1, se1, sz2, se2, sz3, se3, sz4, se4, sz5, se5, sz6, se6, sz7, se7, sz8, se8, sz9, se9, gFld, fldK_ref, gPutF, gPutFM, putFK_ref, gDrf, drfK_ref, gMApp, mlK_ref, gMPop, popK_int, gMIns, ins2K_2, insK_int, gMeth, mthK_ref, gMake, giR3, gFlR1, gFlR2, rg2K_int, gLenSet, lenSetK_lst, lenSetK_tup, gMinD, minDK_lst, giMem, giBA, gMIdx, goTab, gFsort, sortK_lst, sortK_tup, gStep, stepK_lst])
variable {K : PySem.W.Frag}
def wAsk (w : W5) : Prop := w = .has ∨ w = .next ∨ w = .rank
theorem wAsk.same {w : W5} (h : wAsk w) (ns : List Int) (x : Int) : aftS w ns x = ns := by rcases h with rfl | rfl | rfl <;> rfl
def fs_l_asked (K : PySem.W.Frag) : FS := fun ds M Q _ => ∃ (ns : List Int) (w : W5) (x : Int), ds = [.tup (ns.map .int), .str w.s, .int x] ∧ SetN ns ∧ wAsk w ∧ thingN x ∧ Q (.int (telS w ns x)) M
theorem mo_l_asked {K : PySem.W.Frag} : MonoF (fs_l_asked K) := fun _ _ _ _ _ _ h _ ⟨ns, w, x, e, c, c2, c3, q⟩ => ⟨ns, w, x, e, c, c2, c3, h _ _ q⟩
/-- _law_asked -/
def g_l_asked (K : PySem.W.Frag) : GS := gSeq (gAsg (gCallP (fs_p_done K) (gCons (gC (.str "set")) (gCons (gV 0) (gCons (gTup (gCons (gV 1) (gCons (gV 2) gNil))) gNil)))) (gtTup (gtCons (gtN 3) (gtCons (gtN 4) gtNil)) 2)) (gRet (gIf (gB (g2 goEqA (gCa gcRepr (gCons (gV 3) gNil)) (gCa gcRepr (gCons (gV 0) gNil)))) (gV 4) (gC .non)))
theorem h_l_asked {K : PySem.W.Frag} : ∀ ds M Q X, (fs_l_asked K) ds M Q X → ds.length = ([.v, .v, .v] : List AK).length → g_l_asked K { nx := fun _ M' => Q .non M', rt := Q } (entry 5 [.v, .v, .v] ds X) M := by
  rintro ds M Q X ⟨ns, w, x, rfl, hs, hw, hx, q⟩ -
  wp_walk using g_l_asked
  refine done_setX hs hx (fun h => ?_) fun _ => ?_
  · rcases hw with rfl | rfl | rfl <;> cases h.1
  rw [hw.same]
  wp_walk
  refine repr_of (sh_set hs) rfl (by decide) (by decide) ?_
  refine repr_of (sh_set hs) rfl (by decide) (by decide) ?_
  wp_walk
  exact q
theorem asked_of {ns : List Int} {x : Int} (w : W5) {M : Mem} {Q : D → Mem → Prop} {X : Addr → Mem → Prop} (hs : SetN ns) (hw : wAsk w) (hx : thingN x) (q : Q (.int (telS w ns x)) M) : fs_l_asked K [.tup (ns.map .int), .str w.s, .int x] M Q X := ⟨ns, w, x, rfl, hs, hw, hx, q⟩
/-! going on by next -/
theorem above_cut {pre r : List Int} {y : Int} (h : (pre ++ y :: r).Pairwise (· < ·)) : above (pre ++ y :: r) (y + 1) = r := by
  obtain ⟨_, h2, h3⟩ := List.pairwise_append.mp h
  obtain ⟨h4, _⟩ := List.pairwise_cons.mp h2
  unfold above
  rw [List.filter_append, List.filter_eq_nil_iff.mpr fun z hz => by rw [decide_eq_true_eq]; have := h3 z hz y (List.mem_cons_self ..); omega, List.nil_append, List.filter_cons, if_neg (by rw [decide_eq_true_eq]; omega), List.filter_eq_self.mpr fun z hz => by rw [decide_eq_true_eq]; have := h4 z hz; omega]
theorem least_hd {ks : List Int} {x : Int} (hk : ks.Pairwise (· < ·)) : leastFrom ks x = (above ks x).headD (-1) := by
  cases e : above ks x with
  | nil => exact above_none e
  | cons y r => exact above_least hk e
def fs_l_met (K : PySem.W.Frag) : FS := fun ds M Q _ => ∃ ns : List Int, ds = [.tup (ns.map .int)] ∧ SetN ns ∧ Q (.lst ((srt ns).map .int)) M
theorem mo_l_met {K : PySem.W.Frag} : MonoF (fs_l_met K) := fun _ _ _ _ _ _ h _ ⟨ns, e, c, q⟩ => ⟨ns, e, c, h _ _ q⟩
/-- _law_met -/
def lp1_l_met (K : PySem.W.Frag) : GS := gSeq (gApp 1 (gV 2)) (gSet 2 (gIf (gB (g2 goLtA (gV 2) (gC (.int 999999)))) (gCallP (fs_l_asked K) (gCons (gV 0) (gCons (gC (.str "next")) (gCons (g2 goAdd (gV 2) (gC (.int 1))) gNil)))) (g1 guNeg (gC (.int 1)))))
def af1_l_met (K : PySem.W.Frag) : GS := gFrz 1 (gRet (gIf (gB (g2 goEqA (gV 2) (g1 guNeg (gC (.int 1))))) (gV 1) (gC .non)))
def g_l_met (K : PySem.W.Frag) : GS := gSeq (gOwn 1 (gFl (gNil))) (gSeq (gSet 2 (gCallP (fs_l_asked K) (gCons (gV 0) (gCons (gC (.str "next")) (gCons (gC (.int 0)) gNil))))) (gSeq (gWhile (gAnd (gB (g2 (goIsN true) (gV 2) (gC .non))) (gAnd (gB (g2 goGe (gV 2) (gC (.int 0)))) (gB (g2 goLtA (gCa gcLen (gCons (gVw 1) gNil)) (gC (.int 41)))))) (lp1_l_met K)) (af1_l_met K)))
theorem h_l_met {K : PySem.W.Frag} : ∀ ds M Q X, (fs_l_met K) ds M Q X → ds.length = ([.v] : List AK).length → g_l_met K { nx := fun _ M' => Q .non M', rt := Q } (entry 3 [.v] ds X) M := by
  rintro ds M Q X ⟨ns, rfl, hs, q⟩ -
  have hk := srt_lts hs.nd
  have hl := srt_len ns
  have h40 := hs.len
  have hr : ∀ y ∈ srt ns, 0 ≤ y ∧ y ≤ 999999 := fun y hy => hs.rng y (srt_mem.mp hy)
  have a0 : above (srt ns) 0 = srt ns := List.filter_eq_self.mpr fun z hz => by rw [decide_eq_true_eq]; exact (hr z hz).1
  have e0 : telS .next ns 0 = (srt ns).headD (-1) := by
    show leastFrom ns 0 = _
    rw [← least_perm (srt_perm ns), least_hd hk, a0]
  wp_walk using g_l_met
  refine asked_of .next hs (.inr (.inl rfl)) ⟨by decide, by decide⟩ ?_
  rw [e0]
  wp_walk
  refine ⟨fun m r M' => M' = M ∧ ∃ pre rest : List Int, srt ns = pre ++ rest ∧ m = rest.length ∧ r = ⟨[.v (.tup (ns.map .int)), .o (.lst (pre.map .int)), .v (.int (rest.headD (-1)))], X⟩, ⟨_, rfl, [], srt ns, rfl, rfl, rfl⟩, ?_⟩
  rintro m r M' ⟨rfl, pre, rest, es, rfl, rfl⟩
  have hlp : pre.length + rest.length = ns.length := by rw [← hl, es, List.length_append]
  cases rest with
  | nil =>
    rw [List.headD_nil, List.append_nil] at *
    wp_walk using af1_l_met
    rw [es] at q
    exact q
  | cons y r =>
    rw [List.headD_cons]
    rw [List.length_cons] at hlp
    have hy := hr y (by rw [es]; simp)
    wp_walk using lp1_l_met
    rw [if_pos hy.1]
    wp_walk
    rw [if_pos (by omega)]
    refine ⟨size_lt (by omega), ?_⟩
    have fin : ∀ z : Int, z = r.headD (-1) → ∃ m', m' < r.length + 1 ∧ ∃ pre' rest' : List Int, srt ns = pre' ++ rest' ∧ m' = rest'.length ∧ (⟨[.v (.tup (ns.map .int)), .o (.lst (pre.map D.int ++ [.int y])), .v (.int z)], X⟩ : DL.Fr) = ⟨[.v (.tup (ns.map .int)), .o (.lst (pre'.map .int)), .v (.int (rest'.headD (-1)))], X⟩ := fun z ez =>
      ⟨r.length, by omega, pre ++ [y], r, by rw [es, List.append_assoc]; rfl, rfl, by rw [ez, List.map_append]; rfl⟩
    by_cases h9 : y < 999999
    · rw [if_pos h9]
      refine asked_of .next hs (.inr (.inl rfl)) ⟨by omega, by omega⟩ ?_
      refine fin _ ?_
      show leastFrom ns (y + 1) = _
      rw [← least_perm (srt_perm ns), least_hd hk, es, above_cut (by rw [← es]; exact hk)]
    · rw [if_neg h9]
      refine fin _ ?_
      cases r with
      | nil => rfl
      | cons z r =>
        have h1 := hr z (by rw [es]; simp)
        rw [es] at hk
        obtain ⟨_, h2, _⟩ := List.pairwise_append.mp hk
        have := (List.pairwise_cons.mp h2).1 z (List.mem_cons_self ..)
        omega

theorem below_cut {pre r : List Int} {y : Int} (h : (pre ++ y :: r).Pairwise (· < ·)) : below (pre ++ y :: r) y = pre := by
  obtain ⟨_, h2, h3⟩ := List.pairwise_append.mp h
  obtain ⟨h4, _⟩ := List.pairwise_cons.mp h2
  unfold below
  rw [List.filter_append, List.filter_eq_self.mpr fun z hz => by rw [decide_eq_true_eq]; exact h3 z hz y (List.mem_cons_self ..), List.filter_eq_nil_iff.mpr fun z hz => ?_, List.append_nil]
  rw [decide_eq_true_eq]
  rcases List.mem_cons.mp hz with rfl | hz
  · omega
  · have := h4 z hz; omega
theorem below_cut1 {pre r : List Int} {y : Int} (h : (pre ++ y :: r).Pairwise (· < ·)) : (below (pre ++ y :: r) (y + 1)).length = pre.length + 1 := by
  have e := split_len (y + 1) h
  rw [above_cut h, List.length_append, List.length_cons] at e
  omega
theorem split_get {α : Type} {l : List α} {j : Nat} {y : α} (h : l[j]? = some y) : ∃ pre r, l = pre ++ y :: r ∧ pre.length = j := by
  obtain ⟨hj, e⟩ := List.getElem?_eq_some_iff.mp h
  refine ⟨l.take j, l.drop (j + 1), ?_, by rw [List.length_take]; omega⟩
  rw [← e, ← List.drop_eq_getElem_cons hj, List.take_append_drop]
def fs_l_walked (K : PySem.W.Frag) : FS := fun ds M Q _ => ∃ ns : List Int, ds = [.tup (ns.map .int)] ∧ SetN ns ∧ Q (.bl true) M
theorem mo_l_walked {K : PySem.W.Frag} : MonoF (fs_l_walked K) := fun _ _ _ _ _ _ h _ ⟨ns, e, c, q⟩ => ⟨ns, e, c, h _ _ q⟩
/-- _law_walked -/
def af1_l_walked (K : PySem.W.Frag) : GS := gIfS (gAnd (gB (g2 goLtA (gV 3) (gC (.int 999999)))) (gB (g2 (goIn true) (g2 goAdd (gV 3) (gC (.int 1))) (gV 1)))) (gIfS (gB (g2 goNeA (gLst (gCons (gCallP (fs_l_asked K) (gCons (gV 0) (gCons (gC (.str "has")) (gCons (g2 goAdd (gV 3) (gC (.int 1))) gNil)))) (gCons (gCallP (fs_l_asked K) (gCons (gV 0) (gCons (gC (.str "rank")) (gCons (g2 goAdd (gV 3) (gC (.int 1))) gNil)))) gNil))) (gLst (gCons (gC (.int 0)) (gCons (g2 goAdd (gV 2) (gC (.int 1))) gNil))))) (gRet (gC (.bl false))) (gNext)) (gNext)
def af2_l_walked (K : PySem.W.Frag) : GS := gSeq (gIfS (gB (g2 goNeA (gLst (gCons (gCallP (fs_l_asked K) (gCons (gV 0) (gCons (gC (.str "has")) (gCons (gV 3) gNil)))) (gCons (gCallP (fs_l_asked K) (gCons (gV 0) (gCons (gC (.str "rank")) (gCons (gV 3) gNil)))) gNil))) (gLst (gCons (gC (.int 1)) (gCons (gV 2) gNil))))) (gRet (gC (.bl false))) (gNext)) (af1_l_walked K)
def lp1_l_walked (K : PySem.W.Frag) : GS := gSeq (gIfS (gAnd (gB (g2 goGt (gV 2) (gC (.int 0)))) (gB (g2 goGe (g2 goIx (gV 1) (g2 goSub (gV 2) (gC (.int 1)))) (gV 3)))) (gRet (gC (.bl false))) (gNext)) (af2_l_walked K)
def af3_l_walked (K : PySem.W.Frag) : GS := gRet (gC (.bl true))
def af4_l_walked (K : PySem.W.Frag) : GS := gSeq (gFor (itsD (enumD 0) (gV 1)) (gtTup (gtCons (gtN 2) (gtCons (gtN 3) gtNil)) 2) (lp1_l_walked K)) (af3_l_walked K)
def g_l_walked (K : PySem.W.Frag) : GS := gSeq (gSet 1 (gCallP (fs_l_met K) (gCons (gV 0) gNil))) (gSeq (gIfS (gOr (gB (g2 (goIsN false) (gV 1) (gC .non))) (gOr (gB (g2 goNeA (gCa gcLen (gCons (gV 1) gNil)) (gCa gcLen (gCons (gV 0) gNil)))) (gB (g2 goNeA (gFd (gLc (itsD (fun ds => ds) (gV 0)) (gtN 3) (gB (g2 (goIn true) (gV 3) (gV 1))) (gV 3) [3])) (gLst (gNil)))))) (gRet (gC (.bl false))) (gNext)) (af4_l_walked K))
theorem h_l_walked {K : PySem.W.Frag} : ∀ ds M Q X, (fs_l_walked K) ds M Q X → ds.length = ([.v] : List AK).length → g_l_walked K { nx := fun _ M' => Q .non M', rt := Q } (entry 4 [.v] ds X) M := by
  rintro ds M Q X ⟨ns, rfl, hs, q⟩ -
  have hk := srt_lts hs.nd
  have hl := srt_len ns
  have h40 := hs.len
  wp_walk using g_l_walked
  refine ⟨ns, rfl, hs, ?_⟩
  wp_walk using hl
  refine lc_fp (enc := D.int) (f := D.int) (p := fun _ => false) (fun n hn Q' P' y1 y2 => ?_) (size_of (by rw [List.length_nil]; omega)) ?_
  · wp_walk using goIn_lstI
    rw [if_pos (srt_mem.mpr hn)]
    exact y2 rfl
  rw [List.filter_eq_nil_iff.mpr fun _ _ => Bool.false_ne_true]
  wp_walk
  refine ⟨by decide +kernel, ?_⟩
  rw [if_pos (by decide +kernel)]
  wp_walk using af4_l_walked
  refine loop_k2 2 3 (fun x0 x1 n0 n1 => ?_) fun d hd x0 x1 n0 n1 N hN => ?_
  · wp_walk using af3_l_walked
    exact q
  obtain ⟨⟨y, j⟩, hyj, rfl⟩ := List.mem_map.mp hd
  have ey := List.mk_mem_zipIdx_iff_getElem?.mp hyj
  obtain ⟨pre, r, es, rfl⟩ := split_get ey
  have hy : y ∈ ns := srt_mem.mp (by rw [es]; simp)
  have hr := hs.rng y hy
  have e1 : telS .has ns y = 1 := if_pos hy
  have e2 : telS .rank ns y = (pre.length : Nat) := by
    show (((below ns y).length : Nat) : Int) = _
    rw [← below_perm (srt_perm ns), es, below_cut (by rw [← es]; exact hk)]
  have fin : ∀ (D' : DEnds) (X' : Addr → Mem → Prop), D'.nx ⟨[.v (.tup (ns.map .int)), .v (.lst ((srt ns).map .int)), .v (.int (pre.length : Nat)), .v (.int y)], X'⟩ M → af2_l_walked K D' ⟨[.v (.tup (ns.map .int)), .v (.lst ((srt ns).map .int)), .v (.int (pre.length : Nat)), .v (.int y)], X'⟩ M := fun D' X' h => by
    wp_walk using af2_l_walked
    refine asked_of .has hs (.inl rfl) hr ?_
    refine asked_of .rank hs (.inr (.inr rfl)) hr ?_
    rw [e1, e2]
    wp_walk
    refine ⟨ok_lI [1, (pre.length : Nat)], ?_⟩
    have ee : D.eqv (.lst [.int 1, .int (pre.length : Nat)]) (.lst [.int 1, .int (pre.length : Nat)]) = true := eqv_ok (ok_lI [1, (pre.length : Nat)])
    rw [if_pos ee]
    wp_walk using af1_l_walked
    by_cases h9 : y < 999999
    · rw [if_pos h9]
      rw [goIn_lstI]
      by_cases hm : y + 1 ∈ srt ns
      · wp_walk using hm
        exact h
      · wp_walk using hm
        refine asked_of .has hs (.inl rfl) ⟨by omega, by omega⟩ ?_
        refine asked_of .rank hs (.inr (.inr rfl)) ⟨by omega, by omega⟩ ?_
        rw [show telS .has ns (y + 1) = 0 from if_neg fun z => hm (srt_mem.mpr z), show telS .rank ns (y + 1) = (pre.length : Int) + 1 from by
          show (((below ns (y + 1)).length : Nat) : Int) = _
          rw [← below_perm (srt_perm ns), es, below_cut1 (by rw [← es]; exact hk)]; omega]
        wp_walk
        refine ⟨ok_lI [0, (pre.length : Int) + 1], ?_⟩
        have ee : D.eqv (.lst [.int 0, .int ((pre.length : Int) + 1)]) (.lst [.int 0, .int ((pre.length : Int) + 1)]) = true := eqv_ok (ok_lI [0, (pre.length : Int) + 1])
        rw [if_pos ee]
        exact h
    · rw [if_neg h9]
      exact h
  wp_walk using lp1_l_walked
  by_cases h0 : (0 : Int) < (pre.length : Nat)
  · rw [if_pos h0]
    obtain ⟨pi, z, rfl⟩ : ∃ pi z, pre = pi ++ [z] := ⟨pre.dropLast, pre.getLast (List.ne_nil_of_length_pos (by omega)), (List.dropLast_concat_getLast _).symm⟩
    have ez : atI ((srt ns).map D.int) (((pi ++ [z]).length : Nat) - 1 : Int) = some (.int z) := by
      rw [List.length_append, List.length_singleton, show (((pi.length + 1 : Nat) : Int) - 1) = (pi.length : Nat) by omega]
      refine at_map ?_
      rw [es, List.append_assoc, List.getElem?_append_right (Nat.le_refl _), Nat.sub_self]
      rfl
    have hzy : z < y := by
      rw [es] at hk
      exact (List.pairwise_append.mp hk).2.2 z (by simp) y (List.mem_cons_self ..)
    rw [ez]
    wp_walk
    rw [if_neg (by omega)]
    rw [List.length_append, List.length_singleton] at fin
    refine fin _ _ ?_
    exact hN _ _ rfl rfl
  · rw [if_neg h0]
    refine fin _ _ ?_
    exact hN _ _ rfl rfl
theorem step_perm {os : List Int} {c : Int} : (stepL c os).Perm os := by
  unfold stepL
  split
  · exact .refl _
  · exact List.reverse_perm _
theorem stepL_map {α β : Type} (f : α → β) (c : Int) (xs : List α) : stepL c (xs.map f) = (stepL c xs).map f := by
  unfold stepL
  split
  · rfl
  · exact List.map_reverse.symm
def fs_l_turned_about (K : PySem.W.Frag) : FS := fun ds M Q _ => ∃ (a : Addr) (ns : List Int), ds = [.ref a, .tup (ns.map .int)] ∧ M a = some .st ∧ SetN ns ∧ Q (.bl true) M
theorem mo_l_turned_about {K : PySem.W.Frag} : MonoF (fs_l_turned_about K) := fun _ _ _ _ _ _ h _ ⟨a, ns, e, c, c2, q⟩ => ⟨a, ns, e, c, c2, h _ _ q⟩
/-- _law_turned_about -/
def lp1_l_turned_about (K : PySem.W.Frag) : GS := gSeq (gAsg (gCallP (fs_p_done K) (gCons (gC (.str "set")) (gCons (gV 5) (gCons (gTup (gCons (gC (.str "take")) (gCons (gV 6) gNil))) gNil)))) (gtTup (gtCons (gtN 5) (gtCons (gtN 7) gtNil)) 2)) (gIfS (gOr (gB (g2 goNeA (gV 7) (gC (.int 1)))) (gB (g2 goNeA (gCallP (fs_l_asked K) (gCons (gV 5) (gCons (gC (.str "has")) (gCons (gV 6) gNil)))) (gC (.int 0))))) (gRet (gC (.bl false))) (gNext))
def lp2_l_turned_about (K : PySem.W.Frag) : GS := gSeq (gAsg (gCallP (fs_p_done K) (gCons (gC (.str "set")) (gCons (gV 5) (gCons (gTup (gCons (gC (.str "put")) (gCons (gV 6) gNil))) gNil)))) (gtTup (gtCons (gtN 5) (gtCons (gtN 7) gtNil)) 2)) (gIfS (gOr (gB (g2 goNeA (gV 7) (gC (.int 1)))) (gB (g2 goNeA (gCallP (fs_p_done K) (gCons (gC (.str "set")) (gCons (gV 5) (gCons (gTup (gCons (gC (.str "put")) (gCons (gV 6) gNil))) gNil)))) (gTup (gCons (gV 5) (gCons (gC (.int 0)) gNil)))))) (gRet (gC (.bl false))) (gNext))
def af1_l_turned_about (K : PySem.W.Frag) : GS := gRet (g2 goEqA (gFd (gFlist (gV 5))) (g1 goRevA (gV 4)))
def af2_l_turned_about (K : PySem.W.Frag) : GS := gSeq (gFor (itsD (fun ds => ds) (g1 goRevA (gV 4))) (gtN 6) (lp2_l_turned_about K)) (af1_l_turned_about K)
def af3_l_turned_about (K : PySem.W.Frag) : GS := gSeq (gIfS (gB (g2 goNeA (gV 5) (gTup (gNil)))) (gRet (gC (.bl false))) (gNext)) (af2_l_turned_about K)
def g_l_turned_about (K : PySem.W.Frag) : GS := gSeq (gSet 2 (gFd (gFlist (gV 1)))) (gSeq (gSet 3 (gCallM (fs_l_take K) (gCons (gV 0) (gCons (g2 goAdd (gCa gcLen (gCons (gV 2) gNil)) (gC (.int 1))) gNil)))) (gSeq (gSet 4 (gStep (g2 goAdd (gsSl true (gV 2) (gPart (gV 3)) (gNoP)) (gsSl true (gV 2) (gNoP) (gPart (gV 3)))) (gCallM (fs_l_pick K) (gCons (gV 0) (gCons (gLst (gCons (gC (.int 1)) (gCons (g1 guNeg (gC (.int 1))) gNil))) gNil))))) (gSeq (gSet 5 (gV 1)) (gSeq (gFor (itsD (fun ds => ds) (gV 4)) (gtN 6) (lp1_l_turned_about K)) (af3_l_turned_about K)))))
theorem h_l_turned_about {K : PySem.W.Frag} : ∀ ds M Q X, (fs_l_turned_about K) ds M Q X → ds.length = ([.v, .v] : List AK).length → g_l_turned_about K { nx := fun _ M' => Q .non M', rt := Q } (entry 8 [.v, .v] ds X) M := by
  rintro ds M Q X ⟨a, ns, rfl, ms, hs, q⟩ -
  have h40 := hs.len
  have go : ∀ (os : List Int) (c : Int), os.Perm ns → (gSeq (gFor (itsD (fun ds => ds) (gV 4)) (gtN 6) (lp1_l_turned_about K)) (af3_l_turned_about K)) { nx := fun _ M' => Q .non M', rt := Q } ⟨[.v (.ref a), .v (.tup (ns.map .int)), .v (.lst (ns.map .int)), .v (.int c), .v (.lst (os.map .int)), .v (.tup (ns.map .int)), .n, .n], X⟩ M := fun os c hp => by
    have hlo := hp.length_eq
    have hno : os.Nodup := hp.nodup_iff.mpr hs.nd
    have hro : ∀ x ∈ os, 0 ≤ x ∧ x ≤ 999999 := fun x hx => hs.rng x (hp.mem_iff.mp hx)
    wp_walk
    refine loop_mp (enc := D.int) (fun (is : List Int) r M' => M' = M ∧ ∃ (hs : List Int) (x6 x7 : Sl), SetN hs ∧ (∀ x, x ∈ hs ↔ x ∈ is) ∧ is.Nodup ∧ r = ⟨[.v (.ref a), .v (.tup (ns.map .int)), .v (.lst (ns.map .int)), .v (.int c), .v (.lst (os.map .int)), .v (.tup (hs.map .int)), x6, x7], X⟩) ?_ ?_ os _ _ ⟨rfl, ns, .n, .n, hs, fun x => hp.mem_iff.symm, hno, rfl⟩
    · rintro r M' ⟨rfl, hs, x6, x7, hh, hm, _, rfl⟩
      have e0 : hs = [] := List.eq_nil_iff_forall_not_mem.mpr fun x hx => by cases (hm x).mp hx
      subst e0
      wp_walk using af3_l_turned_about
      refine ⟨by decide +kernel, ?_⟩
      rw [if_pos (by decide +kernel)]
      wp_walk using af2_l_turned_about
      rw [← List.map_reverse]
      refine loop_mp (enc := D.int) (fun (is : List Int) r M2 => M2 = M' ∧ ∃ (pre : List Int) (x6 x7 : Sl), os.reverse = pre ++ is ∧ r = ⟨[.v (.ref a), .v (.tup (ns.map .int)), .v (.lst (ns.map .int)), .v (.int c), .v (.lst (os.map .int)), .v (.tup (pre.map .int)), x6, x7], X⟩) ?_ ?_ os.reverse _ _ ⟨rfl, [], _, _, rfl, rfl⟩
      · rintro r M2 ⟨rfl, pre, x6, x7, e, rfl⟩
        rw [List.append_nil] at e
        subst e
        wp_walk using af1_l_turned_about
        rw [← List.map_reverse]
        exact ⟨⟨ok_lI _, ok_lI _⟩, by rw [eqv_ok (ok_lI _)]; exact q⟩
      · rintro x is r M2 ⟨rfl, pre, x6, x7, e, rfl⟩ N hN
        have hlp : pre.length + (is.length + 1) = os.length := by rw [← List.length_reverse (as := os), e, List.length_append, List.length_cons]
        have hno2 : (pre ++ x :: is).Nodup := by rw [← e]; exact (List.reverse_perm os).nodup_iff.mpr hno
        have hro2 : ∀ y ∈ pre ++ x :: is, 0 ≤ y ∧ y ≤ 999999 := fun y hy => hro y (by rw [← e] at hy; exact List.mem_reverse.mp hy)
        have hx := hro2 x (by simp)
        have nx : x ∉ pre := fun z => (List.nodup_append.mp hno2).2.2 x z x (List.mem_cons_self ..) rfl
        have hsp : SetN pre := ⟨by omega, fun y hy => hro2 y (List.mem_append_left _ hy), (List.nodup_append.mp hno2).1⟩
        obtain ⟨p2, hp2⟩ : ∃ p2, p2 = pre ++ [x] := ⟨_, rfl⟩
        have e1 : aftS .put pre x = p2 := hp2 ▸ if_neg nx
        have e2 : telS .put pre x = 1 := if_neg nx
        have hsp2 : SetN p2 := by rw [← e1]; exact hsp.aft .put hx.1 hx.2 fun _ z => by omega
        have hm2 : x ∈ p2 := by rw [hp2]; simp
        have e3 : aftS .put p2 x = p2 := if_pos hm2
        have e4 : telS .put p2 x = 0 := if_pos hm2
        wp_walk using lp2_l_turned_about
        refine done_setX (w := .put) hsp hx (fun z => by have := z.2.2; omega) fun _ => ?_
        rw [e1, e2]
        wp_walk
        refine done_setX (w := .put) hsp2 hx (fun z => absurd hm2 z.2.1) fun _ => ?_
        rw [e3, e4]
        wp_walk
        have ok : D.ok (.tup [.tup (p2.map .int), .int 0]) = true := (sh_tup (k := 1) (w := 2000) (v := 4002) (fun d hd => by
          simp only [List.mem_cons, List.not_mem_nil, or_false] at hd
          rcases hd with rfl | rfl
          · exact sh_set hsp2
          · exact (sh_int (by decide)).mono (by decide) (by decide)) (by show 2 * 2001 ≤ 4002; decide)).ok
        refine ⟨ok, ?_⟩
        rw [if_pos (eqv_ok ok)]
        exact hN _ _ ⟨rfl, p2, _, _, by rw [hp2, e, List.append_assoc]; rfl, rfl⟩
    · rintro x is r M' ⟨rfl, hs, x6, x7, hh, hm, hn, rfl⟩ N hN
      obtain ⟨hn1, hn2⟩ := List.nodup_cons.mp hn
      have hx : x ∈ hs := (hm x).mpr (List.mem_cons_self ..)
      have hr := hh.rng x hx
      have hh2 : SetN (aftS .take hs x) := hh.aft .take hr.1 hr.2 fun z => by cases z
      have nx : x ∉ aftS .take hs x := fun z => by
        have := (List.mem_filter.mp z).2
        simp at this
      wp_walk using lp1_l_turned_about
      refine done_setX (w := .take) hh hr (fun z => by cases z.1) fun _ => ?_
      rw [show telS .take hs x = 1 from if_pos hx]
      wp_walk
      refine asked_of .has hh2 (.inl rfl) hr ?_
      rw [show telS .has (aftS .take hs x) x = 0 from if_neg nx]
      wp_walk
      refine hN _ _ ⟨rfl, aftS .take hs x, _, _, hh2, fun y => ?_, hn2, rfl⟩
      show y ∈ hs.filter _ ↔ _
      rw [List.mem_filter, hm y, List.mem_cons]
      constructor
      · rintro ⟨h1, h2⟩
        exact h1.resolve_left fun e => by simp [e] at h2
      · exact fun h => ⟨.inr h, by
          have : y ≠ x := fun e => hn1 (by rw [← e]; exact h)
          simp [this]⟩
  wp_walk using g_l_turned_about
  refine take_of (K := K) ms (by omega) (by omega) fun c c0 c1 => ?_
  wp_walk
  rw [cutS_drop c0, cutS_take c0 (by rw [List.length_map]; omega), ← List.map_drop, ← List.map_take, ← List.map_append]
  refine ⟨size_of (by simp; omega), pick_of (K := K) ms rfl (by simp) (by simp) fun z hz => ?_⟩
  obtain ⟨k, rfl, hk⟩ : ∃ k : Int, z = .int k ∧ (k = 1 ∨ k = -1) := by
    simp only [List.mem_cons, List.not_mem_nil, or_false] at hz
    rcases hz with rfl | rfl
    · exact ⟨1, rfl, .inl rfl⟩
    · exact ⟨-1, rfl, .inr rfl⟩
  refine ⟨hk, ?_⟩
  rw [stepL_map]
  have h := go (stepL k (ns.drop c.toNat ++ ns.take c.toNat)) c (step_perm.trans (List.perm_append_comm.trans (by rw [List.take_append_drop])))
  wp_walk
  exact h
def fs_law_k07 (K : PySem.W.Frag) : FS := fun ds M Q _ => ∃ ns : List Int, ds = [.lst (ns.map .int)] ∧ ns.length ≤ 63 ∧ ∀ M', Q (.bl true) M'
theorem mo_law_k07 {K : PySem.W.Frag} : MonoF (fs_law_k07 K) := fun _ _ _ _ _ _ h _ ⟨ns, e, c, q⟩ => ⟨ns, e, c, fun M' => h _ _ (q M')⟩
/-- law -/
def af1_law_k07 (K : PySem.W.Frag) : GS := gIfS (gAnd (gB (g2 goEqA (g2 goMod (gV 3) (gC (.int 3))) (gC (.int 0)))) (gNot (gTru (gCallP (fs_l_walked K) (gCons (gV 2) gNil))))) (gRet (gC (.bl false))) (gNext)
def af2_law_k07 (K : PySem.W.Frag) : GS := gSeq (gSet 5 (gCallM (fs_l_near K) (gCons (gV 1) (gCons (gFd (gFlist (gV 2))) gNil)))) (gSeq (gSet 6 (gCallP (fs_l_asked K) (gCons (gV 2) (gCons (gC (.str "has")) (gCons (gV 5) gNil))))) (gSeq (gAsg (gCallP (fs_p_done K) (gCons (gC (.str "set")) (gCons (gV 2) (gCons (gTup (gCons (gV 4) (gCons (gV 5) gNil))) gNil)))) (gtTup (gtCons (gtN 2) (gtCons (gtN 7) gtNil)) 2)) (gSeq (gIfS (gOr (gB (g2 goNeA (gV 7) (g2 goIx (gLst (gCons (g2 goSub (gC (.int 1)) (gV 6)) (gCons (gV 6) gNil))) (gCa gcInt (gCons (g2 goEqA (gV 4) (gC (.str "take"))) gNil))))) (gB (g2 goNeA (gCallP (fs_l_asked K) (gCons (gV 2) (gCons (gC (.str "has")) (gCons (gV 5) gNil)))) (gCa gcInt (gCons (g2 goEqA (gV 4) (gC (.str "put"))) gNil))))) (gRet (gC (.bl false))) (gNext)) (af1_law_k07 K))))
def lp1_law_k07 (K : PySem.W.Frag) : GS := gSeq (gSet 4 (gCallM (fs_l_pick K) (gCons (gV 1) (gCons (gLst (gCons (gC (.str "put")) (gCons (gC (.str "take")) gNil))) gNil)))) (gSeq (gIfS (gB (g2 goEqA (gCa gcLen (gCons (gV 2) gNil)) (gC (.int 40)))) (gSet 4 (gC (.str "take"))) (gNext)) (af2_law_k07 K))
def af3_law_k07 (K : PySem.W.Frag) : GS := gRet (gAndV (gCallP (fs_l_walked K) (gCons (gV 2) gNil)) (gCallM (fs_l_turned_about K) (gCons (gV 1) (gCons (gV 2) gNil))))
def af4_law_k07 (K : PySem.W.Frag) : GS := gSeq (gFor (giR1 (gCons (g2 goAdd (gCa gcMinA (gCons (gLenS 0) (gCons (gC (.int 63)) gNil))) (gC (.int 6))) gNil)) (gtN 3) (lp1_law_k07 K)) (af3_law_k07 K)
def g_law_k07 (K : PySem.W.Frag) : GS := gSeq (gSet 1 (gCallM (fs_l_begun K) (gScr 0))) (gSeq (gSet 2 (gCallM (fs_l_set K) (gCons (gV 1) (gCons (gC (.int 40)) gNil)))) (gSeq (gIfS (gB (g2 goEqA (gCallM (fs_l_take K) (gCons (gV 1) (gCons (gC (.int 4)) gNil))) (gC (.int 0)))) (gSet 2 (gCallM (fs_l_full K) (gCons (gV 1) (gCons (gC (.str "set")) (gCons (gC (.int 40)) gNil))))) (gNext)) (af4_law_k07 K)))
theorem h_law_k07 {K : PySem.W.Frag} : ∀ ds M Q X, (fs_law_k07 K) ds M Q X → ds.length = ([.s] : List AK).length → g_law_k07 K { nx := fun _ M' => Q .non M', rt := Q } (entry 8 [.s] ds X) M := by
  rintro ds M Q X ⟨scr, rfl, hl, q⟩ -
  have go : ∀ (ns : List Int) (M : Mem) (a : Addr), SetN ns → M a = some .st → af4_law_k07 K { nx := fun _ M' => Q .non M', rt := Q } ⟨[.s scr, .v (.ref a), .v (.tup (ns.map .int)), .n, .n, .n, .n, .n], X⟩ M := fun ns M a hs ms => by
    wp_walk using af4_law_k07
    refine ⟨by omega, ?_⟩
    refine loop_mp (enc := fun (i : Nat) => D.int (0 + i)) (fun (_ : List Nat) r M' => M' = M ∧ ∃ (ns : List Int) (x3 x4 x5 x6 x7 : Sl), SetN ns ∧ r = ⟨[.s scr, .v (.ref a), .v (.tup (ns.map .int)), x3, x4, x5, x6, x7], X⟩) ?_ ?_ (List.range _) _ _ ⟨rfl, ns, .n, .n, .n, .n, .n, hs, rfl⟩
    · rintro r M' ⟨rfl, ns, x3, x4, x5, x6, x7, hs, rfl⟩
      wp_walk using af3_law_k07
      refine ⟨ns, rfl, hs, ?_⟩
      wp_walk
      exact ⟨a, ns, rfl, ms, hs, q _⟩
    · rintro i is r M' ⟨rfl, ns, x3, x4, x5, x6, x7, hs, rfl⟩ N hN
      have h40 := hs.len
      have rest : ∀ w : W5, (w = .put ∧ ns.length ≠ 40 ∨ w = .take) → ∀ D' : DEnds, D'.rt = Q → D'.nx = N → af2_law_k07 K D' ⟨[.s scr, .v (.ref a), .v (.tup (ns.map .int)), .v (.int (0 + (i : Nat))), .v (.str w.s), x5, x6, x7], X⟩ M' := fun w hw D' eD eN => by
        wp_walk using af2_law_k07
        refine near_drL (K := K) ms hs.rng (by omega) fun x hx => ?_
        wp_walk
        refine asked_of .has hs (.inl rfl) hx ?_
        wp_walk
        have hf : ¬ (w = .put ∧ x ∉ ns ∧ ns.length = 40) := fun z => by
          rcases hw with ⟨_, h⟩ | h
          · exact h z.2.2
          · rw [z.1] at h; cases h
        have hs2 := hs.aft w hx.1 hx.2 fun z z2 => hf ⟨z, z2.2, z2.1⟩
        refine done_setX hs hx (fun z => absurd z hf) fun _ => ?_
        wp_walk
        have fin : ∀ (x4' : Sl) (v6 v7 : D) (X' : Addr → Mem → Prop), af1_law_k07 K D' ⟨[.s scr, .v (.ref a), .v (.tup ((aftS w ns x).map .int)), .v (.int (i : Nat)), x4', .v (.int x), .v v6, .v v7], X⟩ M' := fun x4' v6 v7 X' => by
          wp_walk using af1_law_k07
          split
          · refine ⟨aftS w ns x, rfl, hs2, ?_⟩
            wp_walk
            rw [eN]
            exact hN _ _ ⟨rfl, aftS w ns x, _, _, _, _, _, hs2, rfl⟩
          · rw [eN]
            exact hN _ _ ⟨rfl, aftS w ns x, _, _, _, _, _, hs2, rfl⟩
        rcases hw with ⟨rfl, _⟩ | rfl
        · rw [show (if W5.put.s = Str.ofString "take" then (1 : Int) else 0) = 0 by decide, show (if W5.put.s = Str.ofString "put" then (1 : Int) else 0) = 1 by decide]
          wp_walk
          have e1 : telS .put ns x = 1 - telS .has ns x := by
            show (if x ∈ ns then (0 : Int) else 1) = 1 - (if x ∈ ns then (1 : Int) else 0)
            split <;> rfl
          rw [if_pos e1]
          refine asked_of .has hs2 (.inl rfl) hx ?_
          have e2 : telS .has (aftS .put ns x) x = 1 := if_pos (by
            show x ∈ if x ∈ ns then ns else ns ++ [x]
            split
            · assumption
            · simp)
          rw [e2]
          wp_walk
          exact fin _ _ _ X
        · rw [show (if W5.take.s = Str.ofString "take" then (1 : Int) else 0) = 1 by decide, show (if W5.take.s = Str.ofString "put" then (1 : Int) else 0) = 0 by decide]
          wp_walk
          rw [if_pos (show telS .take ns x = telS .has ns x from rfl)]
          refine asked_of .has hs2 (.inl rfl) hx ?_
          have e2 : telS .has (aftS .take ns x) x = 0 := if_neg fun z => by
            have := (List.mem_filter.mp z).2
            simp at this
          rw [e2]
          wp_walk
          exact fin _ _ _ X
      rw [Int.zero_add] at rest
      wp_walk using lp1_law_k07
      refine pick_of (K := K) ms rfl (by simp) (by simp) fun z hz => ?_
      by_cases h4 : ((ns.length : Nat) : Int) = 40
      · rw [if_pos h4]
        exact rest .take (.inr rfl) _ rfl rfl
      · rw [if_neg h4]
        simp only [List.mem_cons, List.not_mem_nil, or_false] at hz
        rcases hz with rfl | rfl
        · exact rest .put (.inl ⟨rfl, by omega⟩) _ rfl rfl
        · exact rest .take (.inr rfl) _ rfl rfl
  wp_walk using g_law_k07
  refine ⟨scr, rfl, hl, fun a na => ?_⟩
  have ms : mup M a .st a = some .st := mup_same
  generalize mup M a .st = M1 at ms ⊢
  wp_walk
  refine set_drB (K := K) ms (by decide) (by decide) fun ns hs => ?_
  wp_walk
  refine take_of (K := K) ms (by omega) (by omega) fun c c0 _ => ?_
  wp_walk
  by_cases hc : c = 0
  · rw [if_pos hc]
    wp_walk
    refine full_set_dr (K := K) ms (by decide) (by decide) fun ns hs _ => ?_
    wp_walk
    exact go ns M1 a hs ms
  · rw [if_neg hc]
    exact go ns M1 a hs ms

end LW
/-! the walk, printed by lw.py -/
namespace LW
open PySem PySem.Spec PySem.W PyProof.Rows L2 DL
def topS (i : Nat) : Stmt := PySem.Challenge.pw_turnshelf_k07_whole_sets_walked.main.body.getD i (.Pass ⟨0, 0, 0, 0⟩)
def mthS (i j : Nat) : Stmt := match topS i with
  | .ClassDef _ _ _ b _ _ _ _ _ _ _ => b.getD j (.Pass ⟨0, 0, 0, 0⟩)
  | st => st
def ts : List He.Tab := [((fun K => He.ga K "SET_WORDS"), ["put", "take", "has", "next", "rank"]), ((fun K => He.ga K "ROW_WORDS"), ["at", "into", "out", "find"]), ((fun K => He.ga K "MAP_WORDS"), ["set", "get", "drop", "next"]), ((fun K => He.ga K "WORDS"), ["set", "row", "map"])]
def cs : List Ck := [.tab "SET_WORDS" (fun K => [("put", .int 1), ("take", .int 1), ("has", .int 1), ("next", .int 1), ("rank", .int 1)]), .tab "ROW_WORDS" (fun K => [("at", .int 1), ("into", .int 2), ("out", .int 1), ("find", .int 1)]), .tab "MAP_WORDS" (fun K => [("set", .int 2), ("get", .int 1), ("drop", .int 1), ("next", .int 1)]), .tab "WORDS" (fun K => [("set", .ref (He.ga K "SET_WORDS")), ("row", .ref (He.ga K "ROW_WORDS")), ("map", .ref (He.ga K "MAP_WORDS"))])]
def fa : List He.Fa := [.glo "_law_begun", .glo "_law_take", .glo "_law_pick", .glo "_law_size", .glo "_law_thing", .glo "_law_set", .glo "_law_full", .glo "_law_near", .glo "least_from", .glo "need_place", .glo "done_on_map", .glo "need_sort", .glo "are_unlike", .glo "is_thing", .glo "is_pair", .glo "is_things", .glo "is_deed", .glo "done_on_set", .glo "done_on_row", .glo "done", .glo "_law_asked", .glo "_law_met", .glo "_law_walked", .glo "_law_turned_about", .glo "law", .free "abs", .free "all", .free "bool", .free "enumerate", .free "int", .free "isinstance", .free "len", .free "list", .free "max", .free "min", .free "range", .free "repr", .free "set", .free "str", .free "tuple", .int "MOST_THERE" 40, .int "LAST_THING" 999999, .glo "SET_WORDS", .glo "ROW_WORDS", .glo "MAP_WORDS", .glo "WORDS", .glo "NoDeed", .exc "NoDeed", .glo "NoSort", .exc "NoSort", .glo "NoThings", .exc "NoThings", .glo "TooMany", .exc "TooMany"]
def fn : List He.DefD := [⟨("_law_begun", none), "_law_begun", "_law_begun", defArgs (topS 26), defBody (topS 26), defScope (topS 26), [], []⟩,
  ⟨("_law_take", none), "_law_take", "_law_take", defArgs (topS 27), defBody (topS 27), defScope (topS 27), [], []⟩,
  ⟨("_law_pick", none), "_law_pick", "_law_pick", defArgs (topS 28), defBody (topS 28), defScope (topS 28), [], []⟩,
  ⟨("_law_size", none), "_law_size", "_law_size", defArgs (topS 30), defBody (topS 30), defScope (topS 30), [], []⟩,
  ⟨("_law_thing", none), "_law_thing", "_law_thing", defArgs (topS 29), defBody (topS 29), defScope (topS 29), [], []⟩,
  ⟨("_law_set", none), "_law_set", "_law_set", defArgs (topS 31), defBody (topS 31), defScope (topS 31), [], []⟩,
  ⟨("_law_full", none), "_law_full", "_law_full", defArgs (topS 32), defBody (topS 32), defScope (topS 32), [], []⟩,
  ⟨("_law_near", none), "_law_near", "_law_near", defArgs (topS 33), defBody (topS 33), defScope (topS 33), [], []⟩,
  ⟨("least_from", none), "least_from", "least_from", defArgs (topS 20), defBody (topS 20), defScope (topS 20), [], []⟩,
  ⟨("need_place", none), "need_place", "need_place", defArgs (topS 19), defBody (topS 19), defScope (topS 19), [], []⟩,
  ⟨("done_on_map", none), "done_on_map", "done_on_map", defArgs (topS 23), defBody (topS 23), defScope (topS 23), [], []⟩,
  ⟨("need_sort", none), "need_sort", "need_sort", defArgs (topS 13), defBody (topS 13), defScope (topS 13), [], []⟩,
  ⟨("are_unlike", none), "are_unlike", "are_unlike", defArgs (topS 16), defBody (topS 16), defScope (topS 16), [], []⟩,
  ⟨("is_thing", none), "is_thing", "is_thing", defArgs (topS 14), defBody (topS 14), defScope (topS 14), [], []⟩,
  ⟨("is_pair", none), "is_pair", "is_pair", defArgs (topS 15), defBody (topS 15), defScope (topS 15), [], []⟩,
  ⟨("is_things", none), "is_things", "is_things", defArgs (topS 17), defBody (topS 17), defScope (topS 17), [], []⟩,
  ⟨("is_deed", none), "is_deed", "is_deed", defArgs (topS 18), defBody (topS 18), defScope (topS 18), [], []⟩,
  ⟨("done_on_set", none), "done_on_set", "done_on_set", defArgs (topS 21), defBody (topS 21), defScope (topS 21), [], []⟩,
  ⟨("done_on_row", none), "done_on_row", "done_on_row", defArgs (topS 22), defBody (topS 22), defScope (topS 22), [], []⟩,
  ⟨("done", none), "done", "done", defArgs (topS 24), defBody (topS 24), defScope (topS 24), [], []⟩,
  ⟨("_law_asked", none), "_law_asked", "_law_asked", defArgs (topS 34), defBody (topS 34), defScope (topS 34), [], []⟩,
  ⟨("_law_met", none), "_law_met", "_law_met", defArgs (topS 35), defBody (topS 35), defScope (topS 35), [], []⟩,
  ⟨("_law_walked", none), "_law_walked", "_law_walked", defArgs (topS 36), defBody (topS 36), defScope (topS 36), [], []⟩,
  ⟨("_law_turned_about", none), "_law_turned_about", "_law_turned_about", defArgs (topS 37), defBody (topS 37), defScope (topS 37), [], []⟩,
  ⟨("law", none), "law", "law", defArgs (topS 38), defBody (topS 38), defScope (topS 38), [], []⟩]
section
variable {P : Program} {w : World} {K : PySem.W.Frag} {mg : Str → Option Value} {base : Heap}
abbrev st_l_begun : Stmt := topS 26
abbrev nm_l_begun : List PySem.Str := ["_law_script", "_law_cell"]
theorem sc_l_begun : FnScope nm_l_begun ["_law_script"] (defScope st_l_begun) := ⟨rfl, rfl, rfl, by decide +kernel, rfl, by decide +kernel, by decide +kernel⟩
theorem ok_l_begun (T : WorC fa fn ts cs w K mg) : Def P w K mg base 1 "_law_begun" ["_law_script"] [.s] (fs_l_begun K) :=
  (T.def_ 0 (g := g_l_begun K) sc_l_begun (hbd := fun _ _ _ _ _ _ us hl => match us, hl with | [_], _ => rfl) (hmo := mo_l_begun)
    (hbody := fun f cdv A outer s H E hr hgd => dss_one (ds_retM (p := true) (df_disp (dps_cons ((df_comp (own := [("_law_cell", 1)]) rfl sc_l_begun.nd (di_scr 0) (blkOk_by (N := nm_l_begun) (sc := defScope st_l_begun) (by decide +kernel)) (fun _ _ _ _ _ => dt_name 1 sc_l_begun.nd) (fun _ _ _ _ _ => dtts_nil) (fun _ _ _ _ _ => de_callB ca_abs (by rfl) (T.free 25) (by decide +kernel) (da_one (de_var 1)))).de) (dps_cons (de_int) (dps_cons (de_int) (dps_cons (de_int) (dps_cons (de_add (de_int) (de_lenS 0 (by rfl) (T.free 31))) dps_nil))))))))
    (hfs := h_l_begun)).begun
abbrev st_l_take : Stmt := topS 27
abbrev nm_l_take : List PySem.Str := ["_law_state", "_law_many", "_law_cells", "_law_found", "_law_cell"]
theorem sc_l_take : FnScope nm_l_take ["_law_state", "_law_many"] (defScope st_l_take) := ⟨rfl, rfl, rfl, by decide +kernel, rfl, by decide +kernel, by decide +kernel⟩
theorem ok_l_take (T : WorC fa fn ts cs w K mg) : Def P w K mg base 1 "_law_take" ["_law_state", "_law_many"] [.v, .v] (fs_l_take K) :=
  (T.def_ 1 (g := g_l_take K) sc_l_take (hbd := fun _ _ _ _ _ _ us hl => match us, hl with | [_, _], _ => rfl) (hmo := mo_l_take)
    (hbody := fun f cdv A outer s H E hr hgd => dss_cons (ds_set (p := true) 2 sc_l_take.nd (de_mget (hu_ hr) (de_var 0) (de_str)))
    (dss_cons (ds_while (p := true) (passes_of rfl) ((dw_and (dt_cmp (od_ltA (hu_ (n := 0) hr)) (de_mget (hu_ hr) (de_var 0) (de_str)) (de_int)) (dw_and1 (dt_cmp (od_ltA (hu_ (n := 0) hr)) (de_mget (hu_ hr) (de_var 0) (de_str)) (de_callB ca_len (by rfl) (T.free 31) (by decide +kernel) (da_one (de_var 2)))))).dt) (dss_cons (ds_if (p := true) (dt_cmp od_ge (de_ix (de_var 2) (de_mget (hu_ hr) (de_var 0) (de_str))) (de_op od_pow (de_int) (de_int))) (dss_one (ds_mput (p := true) (hu_ hr) (de_var 0) (de_str) (de_ix (de_var 2) (de_mget (hu_ hr) (de_var 0) (de_str))))) (dss_nil))
    (dss_one (ds_mput (p := true) (hu_ hr) (de_var 0) (de_str) (de_add (de_mget (hu_ hr) (de_var 0) (de_str)) (de_int))))))
    (dss_cons (ds_if (p := true) (dt_cmp od_gt (de_mget (hu_ hr) (de_var 0) (de_str)) (de_int)) (dss_cons (ds_set (p := true) 3 sc_l_take.nd (de_op od_mod (de_mget (hu_ hr) (de_var 0) (de_str)) (de_var 1)))
    (dss_cons (ds_mput (p := true) (hu_ hr) (de_var 0) (de_str) (de_op od_fdiv (de_mget (hu_ hr) (de_var 0) (de_str)) (de_var 1)))
    (dss_one (ds_ret (p := true) (de_var 3))))) (dss_nil))
    (dss_cons (ds_set (p := true) 4 sc_l_take.nd (de_int))
    (dss_cons (ds_if (p := true) (dt_cmp od_gt (de_callB ca_len (by rfl) (T.free 31) (by decide +kernel) (da_one (de_var 2))) (de_int)) (dss_one (ds_set (p := true) 4 sc_l_take.nd (de_ix (de_var 2) (de_op od_mod (de_mget (hu_ hr) (de_var 0) (de_str)) (de_callB ca_len (by rfl) (T.free 31) (by decide +kernel) (da_one (de_var 2))))))) (dss_nil))
    (dss_cons (ds_mput (p := true) (hu_ hr) (de_var 0) (de_str) (de_add (de_mget (hu_ hr) (de_var 0) (de_str)) (de_int)))
    (dss_cons (ds_mput (p := true) (hu_ hr) (de_var 0) (de_str) (de_op od_mod (de_add (de_add (de_op od_mulI (de_mget (hu_ hr) (de_var 0) (de_str)) (de_int)) (de_var 4)) (de_mget (hu_ hr) (de_var 0) (de_str))) (de_int)))
    (dss_one (ds_ret (p := true) (de_op od_mod (de_op od_mod (de_add (de_op od_mulI (de_mget (hu_ hr) (de_var 0) (de_str)) (de_mget (hu_ hr) (de_var 0) (de_str))) (de_op od_mulI (de_int) (de_mget (hu_ hr) (de_var 0) (de_str)))) (de_int)) (de_var 1)))))))))))
    (hfs := h_l_take)).draw
abbrev st_l_pick : Stmt := topS 28
abbrev nm_l_pick : List PySem.Str := ["_law_state", "_law_some"]
theorem sc_l_pick : FnScope nm_l_pick ["_law_state", "_law_some"] (defScope st_l_pick) := ⟨rfl, rfl, rfl, by decide +kernel, rfl, by decide +kernel, by decide +kernel⟩
theorem ok_l_pick (T : WorC fa fn ts cs w K mg) : Def P w K mg base 2 "_law_pick" ["_law_state", "_law_some"] [.v, .v] (fs_l_pick K) :=
  T.def_ 2 (g := g_l_pick K) sc_l_pick (hbd := fun _ _ _ _ _ _ us hl => match us, hl with | [_, _], _ => rfl) (hmo := mo_l_pick)
    (hbody := fun f cdv A outer s H E hr hgd => dss_one (ds_ret (p := false) (de_ix (de_var 1) (dc_m ((ok_l_take T)) hr hgd (dak_cons (k := .v) (de_var 0) (dak_one (k := .v) (de_callB ca_len (by rfl) (T.free 31) (by decide +kernel) (da_one (de_var 1)))))))))
    (hfs := h_l_pick)
abbrev st_l_size : Stmt := topS 30
abbrev nm_l_size : List PySem.Str := ["_law_state", "_law_bound", "_law_some"]
theorem sc_l_size : FnScope nm_l_size ["_law_state", "_law_bound"] (defScope st_l_size) := ⟨rfl, rfl, rfl, by decide +kernel, rfl, by decide +kernel, by decide +kernel⟩
theorem ok_l_size (T : WorC fa fn ts cs w K mg) : Def P w K mg base 3 "_law_size" ["_law_state", "_law_bound"] [.v, .v] (fs_l_size K) :=
  T.def_ 3 (g := g_l_size K) sc_l_size (hbd := fun _ _ _ _ _ _ us hl => match us, hl with | [_, _], _ => rfl) (hmo := mo_l_size)
    (hbody := fun f cdv A outer s H E hr hgd => dss_cons (ds_set (p := false) 2 sc_l_size.nd (de_lstN (an_cons (dc_m ((ok_l_take T).mono (n := 2)) hr hgd (dak_cons (k := .v) (de_var 0) (dak_one (k := .v) (de_int)))) (an_cons (dc_m ((ok_l_take T).mono (n := 2)) hr hgd (dak_cons (k := .v) (de_var 0) (dak_one (k := .v) (de_int)))) (an_cons (dc_m ((ok_l_take T).mono (n := 2)) hr hgd (dak_cons (k := .v) (de_var 0) (dak_one (k := .v) (de_add (de_var 1) (de_int))))) (an_cons (de_int) (an_cons (de_var 1) (an_cons (de_int) an_nil))))))))
    (dss_one (ds_ret (p := false) (de_op od_mod (dc_m ((ok_l_pick T)) hr hgd (dak_cons (k := .v) (de_var 0) (dak_one (k := .v) (de_var 2)))) (de_add (de_var 1) (de_int))))))
    (hfs := h_l_size)
abbrev st_l_thing : Stmt := topS 29
abbrev nm_l_thing : List PySem.Str := ["_law_state", "_law_kind"]
theorem sc_l_thing : FnScope nm_l_thing ["_law_state", "_law_kind"] (defScope st_l_thing) := ⟨rfl, rfl, rfl, by decide +kernel, rfl, by decide +kernel, by decide +kernel⟩
theorem ok_l_thing (T : WorC fa fn ts cs w K mg) : Def P w K mg base 3 "_law_thing" ["_law_state", "_law_kind"] [.v, .v] (fs_l_thing K) :=
  T.def_ 4 (g := g_l_thing K) sc_l_thing (hbd := fun _ _ _ _ _ _ us hl => match us, hl with | [_, _], _ => rfl) (hmo := mo_l_thing)
    (hbody := fun f cdv A outer s H E hr hgd => dss_cons (ds_if (p := true) (dt_cmp (od_ltA (hu_ (n := 0) hr)) (de_var 1) (de_int)) (dss_one (ds_ret (p := false) (dc_m ((ok_l_take T).mono (n := 2)) hr hgd (dak_cons (k := .v) (de_var 0) (dak_one (k := .v) (de_ix (de_lstN (an_cons (de_int) (an_cons (de_int) an_nil))) (de_var 1))))))) (dss_nil))
    (dss_cons (ds_if (p := true) (dt_cmp (od_eqA (hu_ hr)) (de_var 1) (de_int)) (dss_one (ds_ret (p := false) (de_add (de_op od_mulI (de_int) (dc_m ((ok_l_take T).mono (n := 2)) hr hgd (dak_cons (k := .v) (de_var 0) (dak_one (k := .v) (de_int))))) (de_int)))) (dss_nil))
    (dss_cons (ds_if (p := true) (dt_cmp (od_eqA (hu_ hr)) (de_var 1) (de_int)) (dss_one (ds_ret (p := false) (dc_m ((ok_l_take T).mono (n := 2)) hr hgd (dak_cons (k := .v) (de_var 0) (dak_one (k := .v) (de_int)))))) (dss_nil))
    (dss_one (ds_ret (p := false) (dc_m ((ok_l_pick T)) hr hgd (dak_cons (k := .v) (de_var 0) (dak_one (k := .v) (de_lstN (an_cons (de_int) (an_cons (de_int) (an_cons (de_int) (an_cons (de_int) (an_cons (de_int) (an_cons (de_int) an_nil)))))))))))))))
    (hfs := h_l_thing)
abbrev st_l_set : Stmt := topS 31
abbrev nm_l_set : List PySem.Str := ["_law_state", "_law_bound", "_law_kind", "_law_found", "_law_k", "_law_thing_here"]
theorem sc_l_set : FnScope nm_l_set ["_law_state", "_law_bound"] (defScope st_l_set) := ⟨rfl, rfl, rfl, by decide +kernel, rfl, by decide +kernel, by decide +kernel⟩
theorem ok_l_set (T : WorC fa fn ts cs w K mg) : Def P w K mg base 4 "_law_set" ["_law_state", "_law_bound"] [.v, .v] (fs_l_set K) :=
  T.def_ 5 (g := g_l_set K) sc_l_set (hbd := fun _ _ _ _ _ _ us hl => match us, hl with | [_, _], _ => rfl) (hmo := mo_l_set)
    (hbody := fun f cdv A outer s H E hr hgd => dss_cons (ds_set (p := false) 2 sc_l_set.nd (dc_m ((ok_l_take T).mono (n := 3)) hr hgd (dak_cons (k := .v) (de_var 0) (dak_one (k := .v) (de_int)))))
    (dss_cons (ds_own (p := true) 3 sc_l_set.nd (df_lst (an_nil)))
    (dss_cons (ds_for (p := false) (passes_of rfl) rfl (di_range1 (by rfl) (T.free 35) (da_one (dc_m ((ok_l_size T)) hr hgd (dak_cons (k := .v) (de_var 0) (dak_one (k := .v) (de_var 1)))))) (dt_name 4 sc_l_set.nd) (dss_cons (ds_set (p := false) 5 sc_l_set.nd (dc_m ((ok_l_thing T)) hr hgd (dak_cons (k := .v) (de_var 0) (dak_one (k := .v) (de_var 2)))))
    (dss_one (ds_if (p := true) (dt_cmp (od_notin (hu_ hr)) (de_var 5) (de_varW 3)) (dss_one (ds_app (p := true) 3 (de_var 5))) (dss_nil)))))
    (dss_frz 3 (dss_one (ds_ret (p := true) (de_tupleS (by rfl) (T.free 39) (da_one (de_var 3)))))))))
    (hfs := h_l_set)
abbrev st_l_full : Stmt := topS 32
abbrev nm_l_full : List PySem.Str := ["_law_state", "_law_sort", "_law_many", "_law_shift", "_law_step", "_law_some", "_law_k", "_law_one"]
theorem sc_l_full : FnScope nm_l_full ["_law_state", "_law_sort", "_law_many"] (defScope st_l_full) := ⟨rfl, rfl, rfl, by decide +kernel, rfl, by decide +kernel, by decide +kernel⟩
theorem ok_l_full (T : WorC fa fn ts cs w K mg) : Def P w K mg base 3 "_law_full" ["_law_state", "_law_sort", "_law_many"] [.v, .v, .v] (fs_l_full K) :=
  T.def_ 6 (g := g_l_full K) sc_l_full (hbd := fun _ _ _ _ _ _ us hl => match us, hl with | [_, _, _], _ => rfl) (hmo := mo_l_full)
    (hbody := fun f cdv A outer s H E hr hgd => dss_cons (ds_asg (p := false) (de_tupN (an_cons (dc_m ((ok_l_take T).mono (n := 2)) hr hgd (dak_cons (k := .v) (de_var 0) (dak_one (k := .v) (de_int)))) (an_cons (dc_m ((ok_l_pick T)) hr hgd (dak_cons (k := .v) (de_var 0) (dak_one (k := .v) (de_lstN (an_cons (de_int) (an_cons (de_int) (an_cons (de_int) (an_cons (de_int) (an_cons (de_int) an_nil))))))))) an_nil))) (dt_tup rfl (dts_cons (dt_name 3 sc_l_full.nd) (dts_cons (dt_name 4 sc_l_full.nd) dts_nil))))
    (dss_cons (ds_setC (p := true) 5 (own := [("_law_k", 6)]) rfl sc_l_full.nd (di_range1 (by rfl) (T.free 35) (da_one (de_var 2))) (blkOk_by (N := nm_l_full) (sc := defScope st_l_full) (by decide +kernel)) (fun _ _ _ _ _ => dt_name 6 sc_l_full.nd) (fun _ _ _ _ _ => dtts_nil) (fun _ _ _ _ _ => de_op od_mod (de_add (de_var 3) (de_op od_mulI (de_var 6) (de_var 4))) (de_int)))
    (dss_one (ds_ret (p := false) (de_if (dt_cmp (od_eqA (hu_ hr)) (de_var 1) (de_str)) (de_tupleS (by rfl) (T.free 39) (da_one ((df_comp (own := [("_law_one", 7)]) rfl sc_l_full.nd (di_seq (de_var 5)) (blkOk_by (N := nm_l_full) (sc := defScope st_l_full) (by decide +kernel)) (fun _ _ _ _ _ => dt_name 7 sc_l_full.nd) (fun _ _ _ _ _ => dtts_nil) (fun _ _ _ _ _ => de_tupN (an_cons (de_var 7) (an_cons (dc_m ((ok_l_take T).mono (n := 2)) hr hgd (dak_cons (k := .v) (de_var 0) (dak_one (k := .v) (de_int)))) an_nil)))).de))) (de_tupleS (by rfl) (T.free 39) (da_one (de_var 5))))))))
    (hfs := h_l_full)
abbrev st_l_near : Stmt := topS 33
abbrev nm_l_near : List PySem.Str := ["_law_state", "_law_some", "_law_way", "_law_one"]
theorem sc_l_near : FnScope nm_l_near ["_law_state", "_law_some"] (defScope st_l_near) := ⟨rfl, rfl, rfl, by decide +kernel, rfl, by decide +kernel, by decide +kernel⟩
theorem ok_l_near (T : WorC fa fn ts cs w K mg) : Def P w K mg base 4 "_law_near" ["_law_state", "_law_some"] [.v, .v] (fs_l_near K) :=
  T.def_ 7 (g := g_l_near K) sc_l_near (hbd := fun _ _ _ _ _ _ us hl => match us, hl with | [_, _], _ => rfl) (hmo := mo_l_near)
    (hbody := fun f cdv A outer s H E hr hgd => dss_cons (ds_set (p := false) 2 sc_l_near.nd (dc_m ((ok_l_take T).mono (n := 3)) hr hgd (dak_cons (k := .v) (de_var 0) (dak_one (k := .v) (de_int)))))
    (dss_cons (ds_if (p := true) ((dw_or (dt_cmp (od_eqA (hu_ hr)) (de_var 2) (de_int)) (dw_or1 (dt_cmp (od_eqA (hu_ hr)) (de_var 1) (de_lstN (an_nil))))).dt) (dss_one (ds_ret (p := false) (dc_m ((ok_l_thing T)) hr hgd (dak_cons (k := .v) (de_var 0) (dak_one (k := .v) (dc_m ((ok_l_take T).mono (n := 3)) hr hgd (dak_cons (k := .v) (de_var 0) (dak_one (k := .v) (de_int))))))))) (dss_nil))
    (dss_cons (ds_set (p := false) 3 sc_l_near.nd (dc_m ((ok_l_pick T).mono (n := 3)) hr hgd (dak_cons (k := .v) (de_var 0) (dak_one (k := .v) (de_var 1)))))
    (dss_one (ds_ret (p := true) (de_ix (de_lstN (an_cons (de_var 3) (an_cons (de_var 3) (an_cons (de_var 3) (an_cons (de_callB (ca_maxA rfl (hu_ hr)) (by rfl) (T.free 33) (by decide +kernel) (da_cons (de_int) (da_one (de_op od_sub (de_var 3) (de_int))))) (an_cons (de_callB (ca_minA rfl (hu_ hr)) (by rfl) (T.free 34) (by decide +kernel) (da_cons (de_int) (da_one (de_add (de_var 3) (de_int))))) an_nil)))))) (de_var 2)))))))
    (hfs := h_l_near)
abbrev st_p_least_from : Stmt := topS 20
abbrev nm_p_least_from : List PySem.Str := ["things", "x", "one"]
theorem sc_p_least_from : FnScope nm_p_least_from ["things", "x"] (defScope st_p_least_from) := ⟨rfl, rfl, rfl, by decide +kernel, rfl, by decide +kernel, by decide +kernel⟩
theorem ok_p_least_from (T : WorC fa fn ts cs w K mg) : Def P w K mg base 1 "least_from" ["things", "x"] [.b, .v] (fs_p_least_from K) :=
  T.def_ 8 (g := g_p_least_from K) sc_p_least_from (hbd := fun _ _ _ _ _ _ us hl => match us, hl with | [_, _], _ => rfl) (hmo := mo_p_least_from)
    (hbody := fun f cdv A outer s H E hr hgd => dss_one (ds_ret (p := true) (de_minD rfl (hu_ hr) rfl (by rfl) (T.free 34) ((df_comp (own := [("one", 2)]) rfl sc_p_least_from.nd (di_lent 0) (blkOk_by (N := nm_p_least_from) (sc := defScope st_p_least_from) (by decide +kernel)) (fun _ _ _ _ _ => dt_name 2 sc_p_least_from.nd) (fun _ _ _ _ _ => dtts_one (dt_cmp od_ge (de_var 2) (de_var 1))) (fun _ _ _ _ _ => de_var 2)).de) (de_un ud_neg (de_int)))))
    (hfs := h_p_least_from)
abbrev st_p_need_place : Stmt := topS 19
abbrev nm_p_need_place : List PySem.Str := ["things"]
theorem sc_p_need_place : FnScope nm_p_need_place ["things"] (defScope st_p_need_place) := ⟨rfl, rfl, rfl, by decide +kernel, rfl, by decide +kernel, by decide +kernel⟩
theorem ok_p_need_place (T : WorC fa fn ts cs w K mg) : Def P w K mg base 1 "need_place" ["things"] [.b] (fs_p_need_place K) :=
  T.def_ 9 (g := g_p_need_place K) sc_p_need_place (hbd := fun _ _ _ _ _ _ us hl => match us, hl with | [_], _ => rfl) (hmo := mo_p_need_place)
    (hbody := fun f cdv A outer s H E hr hgd => dss_one (ds_if (p := true) (dt_cmp (od_eqA (hu_ hr)) (de_callB ca_len (by rfl) (T.free 31) (by decide +kernel) (da_one (de_varW 0))) (dg_int (T.int 40))) (dss_one (ds_raise (T.exc 52))) (dss_nil)))
    (hfs := h_p_need_place)
abbrev st_p_done_on_map : Stmt := topS 23
abbrev nm_p_done_on_map : List PySem.Str := ["things", "word", "numbers", "key", "keys", "told", "one"]
theorem sc_p_done_on_map : FnScope nm_p_done_on_map ["things", "word", "numbers"] (defScope st_p_done_on_map) := ⟨rfl, rfl, rfl, by decide +kernel, rfl, by decide +kernel, by decide +kernel⟩
theorem ok_p_done_on_map (T : WorC fa fn ts cs w K mg) : Def P w K mg base 2 "done_on_map" ["things", "word", "numbers"] [.v, .v, .v] (fs_p_done_on_map K) :=
  T.def_ 10 (g := g_p_done_on_map K) sc_p_done_on_map (hbd := fun _ _ _ _ _ _ us hl => match us, hl with | [_, _, _], _ => rfl) (hmo := mo_p_done_on_map)
    (hbody := fun f cdv A outer s H E hr hgd => dss_cons (ds_set (p := true) 3 sc_p_done_on_map.nd (de_ix (de_var 2) (de_int)))
    (dss_cons (ds_setC (p := true) 4 (own := [("one", 6)]) rfl sc_p_done_on_map.nd (di_seq (de_var 0)) (blkOk_by (N := nm_p_done_on_map) (sc := defScope st_p_done_on_map) (by decide +kernel)) (fun _ _ _ _ _ => dt_name 6 sc_p_done_on_map.nd) (fun _ _ _ _ _ => dtts_nil) (fun _ _ _ _ _ => de_ix (de_var 6) (de_int)))
    (dss_cons (ds_if (p := true) (dt_cmp (od_eqA (hu_ hr)) (de_var 1) (de_str)) (dss_one (ds_ret (p := true) (de_tupN (an_cons (de_var 0) (an_cons (dc_p ((ok_p_least_from T)) hr hgd (dak_cons (k := .b) ((de_var 4).wk) (dak_one (k := .v) (de_var 3)))) an_nil))))) (dss_nil))
    (dss_cons (ds_set (p := true) 5 sc_p_done_on_map.nd (de_un ud_neg (de_int)))
    (dss_cons (ds_if (p := true) (dt_cmp (od_in (hu_ hr)) (de_var 3) (de_var 4)) (dss_one (ds_set (p := true) 5 sc_p_done_on_map.nd (de_ix (de_ix (de_var 0) (de_index rfl (hu_ hr) (de_var 4) (de_var 3))) (de_int)))) (dss_nil))
    (dss_cons (ds_if (p := true) (dt_cmp (od_eqA (hu_ hr)) (de_var 1) (de_str)) (dss_one (ds_set (p := true) 0 sc_p_done_on_map.nd (de_tupleS (by rfl) (T.free 39) (da_one ((df_comp (own := [("one", 6)]) rfl sc_p_done_on_map.nd (di_seq (de_var 0)) (blkOk_by (N := nm_p_done_on_map) (sc := defScope st_p_done_on_map) (by decide +kernel)) (fun _ _ _ _ _ => dt_name 6 sc_p_done_on_map.nd) (fun _ _ _ _ _ => dtts_one (dt_cmp (od_neA (hu_ hr)) (de_ix (de_var 6) (de_int)) (de_var 3))) (fun _ _ _ _ _ => de_var 6)).de))))) (dss_one (ds_if (p := true) ((dw_and (dt_cmp (od_eqA (hu_ hr)) (de_var 1) (de_str)) (dw_and1 (dt_cmp (od_in (hu_ hr)) (de_var 3) (de_var 4)))).dt) (dss_one (ds_set (p := true) 0 sc_p_done_on_map.nd (de_tupleS (by rfl) (T.free 39) (da_one ((df_comp (own := [("one", 6)]) rfl sc_p_done_on_map.nd (di_seq (de_var 0)) (blkOk_by (N := nm_p_done_on_map) (sc := defScope st_p_done_on_map) (by decide +kernel)) (fun _ _ _ _ _ => dt_name 6 sc_p_done_on_map.nd) (fun _ _ _ _ _ => dtts_nil) (fun _ _ _ _ _ => de_if (dt_cmp (od_eqA (hu_ hr)) (de_ix (de_var 6) (de_int)) (de_var 3)) (de_tupN (an_cons (de_var 3) (an_cons (de_ix (de_var 2) (de_int)) an_nil))) (de_var 6))).de))))) (dss_one (ds_if (p := true) (dt_cmp (od_eqA (hu_ hr)) (de_var 1) (de_str)) (dss_cons (ds_expr (p := true) (dc_p ((ok_p_need_place T)) hr hgd (dak_one (k := .b) ((de_var 0).wk))))
    (dss_one (ds_set (p := true) 0 sc_p_done_on_map.nd (de_add (de_var 0) (de_tupN (an_cons (de_tupN (an_cons (de_var 3) (an_cons (de_ix (de_var 2) (de_int)) an_nil))) an_nil)))))) (dss_nil))))))
    (dss_one (ds_ret (p := true) (de_tupN (an_cons (de_var 0) (an_cons (de_var 5) an_nil)))))))))))
    (hfs := h_p_done_on_map)
abbrev st_p_need_sort : Stmt := topS 13
abbrev nm_p_need_sort : List PySem.Str := ["sort"]
theorem sc_p_need_sort : FnScope nm_p_need_sort ["sort"] (defScope st_p_need_sort) := ⟨rfl, rfl, rfl, by decide +kernel, rfl, by decide +kernel, by decide +kernel⟩
theorem ok_p_need_sort (T : WorC fa fn ts cs w K mg) : Def P w K mg base 1 "need_sort" ["sort"] [.v] (fs_p_need_sort K) :=
  T.def_ 11 (g := g_p_need_sort K) sc_p_need_sort (hbd := fun _ _ _ _ _ _ us hl => match us, hl with | [_], _ => rfl) (hmo := mo_p_need_sort)
    (hbody := fun f cdv A outer s H E hr hgd => dss_one (ds_if (p := true) ((dw_or (dt_not (dt_tru (de_callB ca_isi (by rfl) (T.free 30) (by decide +kernel) (da_cons (de_var 0) (da_one (de_ty (by rfl) (T.free 38) (by decide +kernel))))))) (dw_or1 (dt_cmp (od_notinTab (T.tb 45 3)) (de_var 0) (dg_tab (T.tb 45 3))))).dt) (dss_one (ds_raise (T.exc 48))) (dss_nil)))
    (hfs := h_p_need_sort)
abbrev st_p_are_unlike : Stmt := topS 16
abbrev nm_p_are_unlike : List PySem.Str := ["things"]
theorem sc_p_are_unlike : FnScope nm_p_are_unlike ["things"] (defScope st_p_are_unlike) := ⟨rfl, rfl, rfl, by decide +kernel, rfl, by decide +kernel, by decide +kernel⟩
theorem ok_p_are_unlike (T : WorC fa fn ts cs w K mg) : Def P w K mg base 1 "are_unlike" ["things"] [.v] (fs_p_are_unlike K) :=
  T.def_ 12 (g := g_p_are_unlike K) sc_p_are_unlike (hbd := fun _ _ _ _ _ _ us hl => match us, hl with | [_], _ => rfl) (hmo := mo_p_are_unlike)
    (hbody := fun f cdv A outer s H E hr hgd => dss_one (ds_ret (p := true) (de_cmp (od_eqA (hu_ hr)) (de_lenSet rfl (by rfl) (T.free 31) (by rfl) (T.free 37) (de_var 0)) (de_callB ca_len (by rfl) (T.free 31) (by decide +kernel) (da_one (de_var 0))))))
    (hfs := h_p_are_unlike)
abbrev st_p_is_thing : Stmt := topS 14
abbrev nm_p_is_thing : List PySem.Str := ["thing"]
theorem sc_p_is_thing : FnScope nm_p_is_thing ["thing"] (defScope st_p_is_thing) := ⟨rfl, rfl, rfl, by decide +kernel, rfl, by decide +kernel, by decide +kernel⟩
theorem ok_p_is_thing (T : WorC fa fn ts cs w K mg) : Def P w K mg base 1 "is_thing" ["thing"] [.v] (fs_p_is_thing K) :=
  T.def_ 13 (g := g_p_is_thing K) sc_p_is_thing (hbd := fun _ _ _ _ _ _ us hl => match us, hl with | [_], _ => rfl) (hmo := mo_p_is_thing)
    (hbody := fun f cdv A outer s H E hr hgd => dss_one (ds_ret (p := true) (de_and (de_callB ca_isi (by rfl) (T.free 30) (by decide +kernel) (da_cons (de_var 0) (da_one (de_ty (by rfl) (T.free 29) (by decide +kernel))))) (de_and (de_not (de_callB ca_isi (by rfl) (T.free 30) (by decide +kernel) (da_cons (de_var 0) (da_one (de_ty (by rfl) (T.free 27) (by decide +kernel)))))) (de_one (de_chain od_le od_le (de_int) (de_var 0) (dg_int (T.int 41))))))))
    (hfs := h_p_is_thing)
abbrev st_p_is_pair : Stmt := topS 15
abbrev nm_p_is_pair : List PySem.Str := ["thing"]
theorem sc_p_is_pair : FnScope nm_p_is_pair ["thing"] (defScope st_p_is_pair) := ⟨rfl, rfl, rfl, by decide +kernel, rfl, by decide +kernel, by decide +kernel⟩
theorem ok_p_is_pair (T : WorC fa fn ts cs w K mg) : Def P w K mg base 2 "is_pair" ["thing"] [.v] (fs_p_is_pair K) :=
  T.def_ 14 (g := g_p_is_pair K) sc_p_is_pair (hbd := fun _ _ _ _ _ _ us hl => match us, hl with | [_], _ => rfl) (hmo := mo_p_is_pair)
    (hbody := fun f cdv A outer s H E hr hgd => dss_one (ds_ret (p := true) (de_and (de_callB ca_isi (by rfl) (T.free 30) (by decide +kernel) (da_cons (de_var 0) (da_one (de_ty (by rfl) (T.free 39) (by decide +kernel))))) (de_and (de_cmp (od_eqA (hu_ hr)) (de_callB ca_len (by rfl) (T.free 31) (by decide +kernel) (da_one (de_var 0))) (de_int)) (de_and (dc_p ((ok_p_is_thing T)) hr hgd (dak_one (k := .v) (de_ix (de_var 0) (de_int)))) (de_one (dc_p ((ok_p_is_thing T)) hr hgd (dak_one (k := .v) (de_ix (de_var 0) (de_int))))))))))
    (hfs := h_p_is_pair)
abbrev st_p_is_things : Stmt := topS 17
abbrev nm_p_is_things : List PySem.Str := ["sort", "thing", "one"]
theorem sc_p_is_things : FnScope nm_p_is_things ["sort", "thing"] (defScope st_p_is_things) := ⟨rfl, rfl, rfl, by decide +kernel, rfl, by decide +kernel, by decide +kernel⟩
theorem ok_p_is_things (T : WorC fa fn ts cs w K mg) : Def P w K mg base 3 "is_things" ["sort", "thing"] [.v, .v] (fs_p_is_things K) :=
  T.def_ 15 (g := g_p_is_things K) sc_p_is_things (hbd := fun _ _ _ _ _ _ us hl => match us, hl with | [_, _], _ => rfl) (hmo := mo_p_is_things)
    (hbody := fun f cdv A outer s H E hr hgd => dss_cons (ds_expr (p := true) (dc_p ((ok_p_need_sort T).mono (n := 2)) hr hgd (dak_one (k := .v) (de_var 0))))
    (dss_cons (ds_if (p := true) ((dw_or (dt_not (dt_tru (de_callB ca_isi (by rfl) (T.free 30) (by decide +kernel) (da_cons (de_var 1) (da_one (de_ty (by rfl) (T.free 39) (by decide +kernel))))))) (dw_or1 (dt_cmp od_gt (de_callB ca_len (by rfl) (T.free 31) (by decide +kernel) (da_one (de_var 1))) (dg_int (T.int 40))))).dt) (dss_one (ds_ret (p := true) (de_bl))) (dss_nil))
    (dss_cons (ds_if (p := true) (dt_cmp (od_eqA (hu_ hr)) (de_var 0) (de_str)) (dss_one (ds_ret (p := true) (de_and (de_callB (ca_all (cr_all rfl)) (by rfl) (T.free 26) (by decide +kernel) (da_one ((df_comp (own := [("one", 2)]) rfl sc_p_is_things.nd (di_seq (de_var 1)) (blkOk_by (N := nm_p_is_things) (sc := defScope st_p_is_things) (by decide +kernel)) (fun _ _ _ _ _ => dt_name 2 sc_p_is_things.nd) (fun _ _ _ _ _ => dtts_nil) (fun _ _ _ _ _ => dc_p ((ok_p_is_pair T)) hr hgd (dak_one (k := .v) (de_var 2)))).de))) (de_one (dc_p ((ok_p_are_unlike T).mono (n := 2)) hr hgd (dak_one (k := .v) ((df_comp (own := [("one", 2)]) rfl sc_p_is_things.nd (di_seq (de_var 1)) (blkOk_by (N := nm_p_is_things) (sc := defScope st_p_is_things) (by decide +kernel)) (fun _ _ _ _ _ => dt_name 2 sc_p_is_things.nd) (fun _ _ _ _ _ => dtts_nil) (fun _ _ _ _ _ => de_ix (de_var 2) (de_int))).de))))))) (dss_nil))
    (dss_cons (ds_if (p := true) (dt_not (dt_tru (de_callB (ca_all (cr_all rfl)) (by rfl) (T.free 26) (by decide +kernel) (da_one ((df_comp (own := [("one", 2)]) rfl sc_p_is_things.nd (di_seq (de_var 1)) (blkOk_by (N := nm_p_is_things) (sc := defScope st_p_is_things) (by decide +kernel)) (fun _ _ _ _ _ => dt_name 2 sc_p_is_things.nd) (fun _ _ _ _ _ => dtts_nil) (fun _ _ _ _ _ => dc_p ((ok_p_is_thing T).mono (n := 2)) hr hgd (dak_one (k := .v) (de_var 2)))).de))))) (dss_one (ds_ret (p := true) (de_bl))) (dss_nil))
    (dss_one (ds_ret (p := true) (de_or (de_cmp (od_eqA (hu_ hr)) (de_var 0) (de_str)) (de_one (dc_p ((ok_p_are_unlike T).mono (n := 2)) hr hgd (dak_one (k := .v) (de_var 1)))))))))))
    (hfs := h_p_is_things)
abbrev st_p_is_deed : Stmt := topS 18
abbrev nm_p_is_deed : List PySem.Str := ["sort", "thing", "one"]
theorem sc_p_is_deed : FnScope nm_p_is_deed ["sort", "thing"] (defScope st_p_is_deed) := ⟨rfl, rfl, rfl, by decide +kernel, rfl, by decide +kernel, by decide +kernel⟩
theorem ok_p_is_deed (T : WorC fa fn ts cs w K mg) : Def P w K mg base 2 "is_deed" ["sort", "thing"] [.v, .v] (fs_p_is_deed K) :=
  T.def_ 16 (g := g_p_is_deed K) sc_p_is_deed (hbd := fun _ _ _ _ _ _ us hl => match us, hl with | [_, _], _ => rfl) (hmo := mo_p_is_deed)
    (hbody := fun f cdv A outer s H E hr hgd => dss_cons (ds_expr (p := true) (dc_p ((ok_p_need_sort T)) hr hgd (dak_one (k := .v) (de_var 0))))
    (dss_cons (ds_if (p := true) ((dw_or (dt_not (dt_tru (de_callB ca_isi (by rfl) (T.free 30) (by decide +kernel) (da_cons (de_var 1) (da_one (de_ty (by rfl) (T.free 39) (by decide +kernel))))))) (dw_or (dt_cmp (od_eqA (hu_ hr)) (de_callB ca_len (by rfl) (T.free 31) (by decide +kernel) (da_one (de_var 1))) (de_int)) (dw_or1 (dt_not (dt_tru (de_callB ca_isi (by rfl) (T.free 30) (by decide +kernel) (da_cons (de_ix (de_var 1) (de_int)) (da_one (de_ty (by rfl) (T.free 38) (by decide +kernel)))))))))).dt) (dss_one (ds_ret (p := true) (de_bl))) (dss_nil))
    (dss_cons (ds_if (p := true) (dt_cmp (od_neA (hu_ hr)) (de_tabGet (tbs_cons (T.tbv 42 0 0 (kvs := kv_SET_WORDS)) (tbs_cons (T.tbv 43 1 1 (kvs := kv_ROW_WORDS)) (tbs_cons (T.tbv 44 2 2 (kvs := kv_MAP_WORDS)) tbs_nil))) (de_tabIx (T.tbv 45 3 3 (kvs := kv_WORDS)) (de_var 0)) (de_ix (de_var 1) (de_int))) (de_op od_sub (de_callB ca_len (by rfl) (T.free 31) (by decide +kernel) (da_one (de_var 1))) (de_int))) (dss_one (ds_ret (p := true) (de_bl))) (dss_nil))
    (dss_one (ds_ret (p := true) (de_callB (ca_all (cr_all rfl)) (by rfl) (T.free 26) (by decide +kernel) (da_one ((df_comp (own := [("one", 2)]) rfl sc_p_is_deed.nd (di_seq (de_sl (de_var 1) (do_some (de_int)) (do_none))) (blkOk_by (N := nm_p_is_deed) (sc := defScope st_p_is_deed) (by decide +kernel)) (fun _ _ _ _ _ => dt_name 2 sc_p_is_deed.nd) (fun _ _ _ _ _ => dtts_nil) (fun _ _ _ _ _ => dc_p ((ok_p_is_thing T)) hr hgd (dak_one (k := .v) (de_var 2)))).de))))))))
    (hfs := h_p_is_deed)
abbrev st_p_done_on_set : Stmt := topS 21
abbrev nm_p_done_on_set : List PySem.Str := ["things", "word", "x", "there", "one"]
theorem sc_p_done_on_set : FnScope nm_p_done_on_set ["things", "word", "x"] (defScope st_p_done_on_set) := ⟨rfl, rfl, rfl, by decide +kernel, rfl, by decide +kernel, by decide +kernel⟩
theorem ok_p_done_on_set (T : WorC fa fn ts cs w K mg) : Def P w K mg base 2 "done_on_set" ["things", "word", "x"] [.v, .v, .v] (fs_p_done_on_set K) :=
  T.def_ 17 (g := g_p_done_on_set K) sc_p_done_on_set (hbd := fun _ _ _ _ _ _ us hl => match us, hl with | [_, _, _], _ => rfl) (hmo := mo_p_done_on_set)
    (hbody := fun f cdv A outer s H E hr hgd => dss_cons (ds_if (p := true) (dt_cmp (od_eqA (hu_ hr)) (de_var 1) (de_str)) (dss_one (ds_ret (p := true) (de_tupN (an_cons (de_var 0) (an_cons (dc_p ((ok_p_least_from T)) hr hgd (dak_cons (k := .b) ((de_var 0).wk) (dak_one (k := .v) (de_var 2)))) an_nil))))) (dss_nil))
    (dss_cons (ds_if (p := true) (dt_cmp (od_eqA (hu_ hr)) (de_var 1) (de_str)) (dss_one (ds_ret (p := true) (de_tupN (an_cons (de_var 0) (an_cons (de_callB ca_len (by rfl) (T.free 31) (by decide +kernel) (da_one ((df_comp (own := [("one", 4)]) rfl sc_p_done_on_set.nd (di_seq (de_var 0)) (blkOk_by (N := nm_p_done_on_set) (sc := defScope st_p_done_on_set) (by decide +kernel)) (fun _ _ _ _ _ => dt_name 4 sc_p_done_on_set.nd) (fun _ _ _ _ _ => dtts_one (dt_cmp (od_ltA (hu_ (n := 0) hr)) (de_var 4) (de_var 2))) (fun _ _ _ _ _ => de_var 4)).de))) an_nil))))) (dss_nil))
    (dss_cons (ds_set (p := true) 3 sc_p_done_on_set.nd (de_cmp (od_in (hu_ hr)) (de_var 2) (de_var 0)))
    (dss_cons (ds_if (p := true) ((dw_and (dt_cmp (od_eqA (hu_ hr)) (de_var 1) (de_str)) (dw_and1 (dt_not (dt_tru (de_var 3))))).dt) (dss_cons (ds_expr (p := true) (dc_p ((ok_p_need_place T)) hr hgd (dak_one (k := .b) ((de_var 0).wk))))
    (dss_one (ds_ret (p := true) (de_tupN (an_cons (de_add (de_var 0) (de_tupN (an_cons (de_var 2) an_nil))) (an_cons (de_int) an_nil)))))) (dss_nil))
    (dss_cons (ds_if (p := true) (dt_cmp (od_eqA (hu_ hr)) (de_var 1) (de_str)) (dss_one (ds_ret (p := true) (de_tupN (an_cons (de_var 0) (an_cons (de_int) an_nil))))) (dss_nil))
    (dss_cons (ds_if (p := true) (dt_cmp (od_eqA (hu_ hr)) (de_var 1) (de_str)) (dss_one (ds_set (p := true) 0 sc_p_done_on_set.nd (de_tupleS (by rfl) (T.free 39) (da_one ((df_comp (own := [("one", 4)]) rfl sc_p_done_on_set.nd (di_seq (de_var 0)) (blkOk_by (N := nm_p_done_on_set) (sc := defScope st_p_done_on_set) (by decide +kernel)) (fun _ _ _ _ _ => dt_name 4 sc_p_done_on_set.nd) (fun _ _ _ _ _ => dtts_one (dt_cmp (od_neA (hu_ hr)) (de_var 4) (de_var 2))) (fun _ _ _ _ _ => de_var 4)).de))))) (dss_nil))
    (dss_one (ds_ret (p := true) (de_tupN (an_cons (de_var 0) (an_cons (de_callTy ca_int (by rfl) (T.free 29) (by decide +kernel) (da_one (de_var 3))) an_nil)))))))))))
    (hfs := h_p_done_on_set)
abbrev st_p_done_on_row : Stmt := topS 22
abbrev nm_p_done_on_row : List PySem.Str := ["things", "word", "numbers", "first", "place", "told"]
theorem sc_p_done_on_row : FnScope nm_p_done_on_row ["things", "word", "numbers"] (defScope st_p_done_on_row) := ⟨rfl, rfl, rfl, by decide +kernel, rfl, by decide +kernel, by decide +kernel⟩
theorem ok_p_done_on_row (T : WorC fa fn ts cs w K mg) : Def P w K mg base 2 "done_on_row" ["things", "word", "numbers"] [.v, .v, .v] (fs_p_done_on_row K) :=
  T.def_ 18 (g := g_p_done_on_row K) sc_p_done_on_row (hbd := fun _ _ _ _ _ _ us hl => match us, hl with | [_, _, _], _ => rfl) (hmo := mo_p_done_on_row)
    (hbody := fun f cdv A outer s H E hr hgd => dss_cons (ds_set (p := true) 3 sc_p_done_on_row.nd (de_ix (de_var 2) (de_int)))
    (dss_cons (ds_if (p := true) (dt_cmp (od_eqA (hu_ hr)) (de_var 1) (de_str)) (dss_one (ds_ret (p := true) (de_tupN (an_cons (de_var 0) (an_cons (de_if (dt_cmp (od_in (hu_ hr)) (de_var 3) (de_var 0)) (de_index rfl (hu_ hr) (de_var 0) (de_var 3)) (de_un ud_neg (de_int))) an_nil))))) (dss_nil))
    (dss_cons (ds_if (p := true) (dt_cmp (od_eqA (hu_ hr)) (de_var 1) (de_str)) (dss_cons (ds_expr (p := true) (dc_p ((ok_p_need_place T)) hr hgd (dak_one (k := .b) ((de_var 0).wk))))
    (dss_cons (ds_set (p := true) 4 sc_p_done_on_row.nd (de_callB (ca_minA rfl (hu_ hr)) (by rfl) (T.free 34) (by decide +kernel) (da_cons (de_var 3) (da_one (de_callB ca_len (by rfl) (T.free 31) (by decide +kernel) (da_one (de_var 0)))))))
    (dss_one (ds_ret (p := true) (de_tupN (an_cons (de_add (de_add (de_sl (de_var 0) (do_none) (do_some (de_var 4))) (de_tupN (an_cons (de_ix (de_var 2) (de_int)) an_nil))) (de_sl (de_var 0) (do_some (de_var 4)) (do_none))) (an_cons (de_var 4) an_nil))))))) (dss_nil))
    (dss_cons (ds_set (p := true) 5 sc_p_done_on_row.nd (de_if (dt_cmp (od_ltA (hu_ (n := 0) hr)) (de_var 3) (de_callB ca_len (by rfl) (T.free 31) (by decide +kernel) (da_one (de_var 0)))) (de_ix (de_var 0) (de_var 3)) (de_un ud_neg (de_int))))
    (dss_cons (ds_if (p := true) (dt_cmp (od_eqA (hu_ hr)) (de_var 1) (de_str)) (dss_one (ds_set (p := true) 0 sc_p_done_on_row.nd (de_add (de_sl (de_var 0) (do_none) (do_some (de_var 3))) (de_sl (de_var 0) (do_some (de_add (de_var 3) (de_int))) (do_none))))) (dss_nil))
    (dss_one (ds_ret (p := true) (de_tupN (an_cons (de_var 0) (an_cons (de_var 5) an_nil))))))))))
    (hfs := h_p_done_on_row)
abbrev st_p_done : Stmt := topS 24
abbrev nm_p_done : List PySem.Str := ["sort", "things", "deed"]
theorem sc_p_done : FnScope nm_p_done ["sort", "things", "deed"] (defScope st_p_done) := ⟨rfl, rfl, rfl, by decide +kernel, rfl, by decide +kernel, by decide +kernel⟩
theorem ok_p_done (T : WorC fa fn ts cs w K mg) : Def P w K mg base 4 "done" ["sort", "things", "deed"] [.v, .v, .v] (fs_p_done K) :=
  T.def_ 19 (g := g_p_done K) sc_p_done (hbd := fun _ _ _ _ _ _ us hl => match us, hl with | [_, _, _], _ => rfl) (hmo := mo_p_done)
    (hbody := fun f cdv A outer s H E hr hgd => dss_cons (ds_if (p := true) (dt_not (dt_tru (dc_p ((ok_p_is_things T)) hr hgd (dak_cons (k := .v) (de_var 0) (dak_one (k := .v) (de_var 1)))))) (dss_one (ds_raise (T.exc 50))) (dss_nil))
    (dss_cons (ds_if (p := true) (dt_not (dt_tru (dc_p ((ok_p_is_deed T).mono (n := 3)) hr hgd (dak_cons (k := .v) (de_var 0) (dak_one (k := .v) (de_var 2)))))) (dss_one (ds_raise (T.exc 46))) (dss_nil))
    (dss_cons (ds_if (p := true) (dt_cmp (od_eqA (hu_ hr)) (de_var 0) (de_str)) (dss_one (ds_ret (p := true) (dc_p ((ok_p_done_on_set T).mono (n := 3)) hr hgd (dak_cons (k := .v) (de_var 1) (dak_cons (k := .v) (de_ix (de_var 2) (de_int)) (dak_one (k := .v) (de_ix (de_var 2) (de_int)))))))) (dss_nil))
    (dss_cons (ds_if (p := true) (dt_cmp (od_eqA (hu_ hr)) (de_var 0) (de_str)) (dss_one (ds_ret (p := true) (dc_p ((ok_p_done_on_row T).mono (n := 3)) hr hgd (dak_cons (k := .v) (de_var 1) (dak_cons (k := .v) (de_ix (de_var 2) (de_int)) (dak_one (k := .v) (de_sl (de_var 2) (do_some (de_int)) (do_none)))))))) (dss_nil))
    (dss_one (ds_ret (p := true) (dc_p ((ok_p_done_on_map T).mono (n := 3)) hr hgd (dak_cons (k := .v) (de_var 1) (dak_cons (k := .v) (de_ix (de_var 2) (de_int)) (dak_one (k := .v) (de_sl (de_var 2) (do_some (de_int)) (do_none))))))))))))
    (hfs := h_p_done)
abbrev st_l_asked : Stmt := topS 34
abbrev nm_l_asked : List PySem.Str := ["_law_things", "_law_word", "_law_x", "_law_behind", "_law_told"]
theorem sc_l_asked : FnScope nm_l_asked ["_law_things", "_law_word", "_law_x"] (defScope st_l_asked) := ⟨rfl, rfl, rfl, by decide +kernel, rfl, by decide +kernel, by decide +kernel⟩
theorem ok_l_asked (T : WorC fa fn ts cs w K mg) : Def P w K mg base 5 "_law_asked" ["_law_things", "_law_word", "_law_x"] [.v, .v, .v] (fs_l_asked K) :=
  T.def_ 20 (g := g_l_asked K) sc_l_asked (hbd := fun _ _ _ _ _ _ us hl => match us, hl with | [_, _, _], _ => rfl) (hmo := mo_l_asked)
    (hbody := fun f cdv A outer s H E hr hgd => dss_cons (ds_asg (p := true) (dc_p ((ok_p_done T)) hr hgd (dak_cons (k := .v) (de_str) (dak_cons (k := .v) (de_var 0) (dak_one (k := .v) (de_tupN (an_cons (de_var 1) (an_cons (de_var 2) an_nil))))))) (dt_tup rfl (dts_cons (dt_name 3 sc_l_asked.nd) (dts_cons (dt_name 4 sc_l_asked.nd) dts_nil))))
    (dss_one (ds_ret (p := true) (de_if (dt_cmp (od_eqA (hu_ hr)) (de_callB (ca_repr (hu_ hr) hgd) (by rfl) (T.free 36) (by decide +kernel) (da_one (de_var 3))) (de_callB (ca_repr (hu_ hr) hgd) (by rfl) (T.free 36) (by decide +kernel) (da_one (de_var 0)))) (de_var 4) (de_non)))))
    (hfs := h_l_asked)
abbrev st_l_met : Stmt := topS 35
abbrev nm_l_met : List PySem.Str := ["_law_things", "_law_found", "_law_here"]
theorem sc_l_met : FnScope nm_l_met ["_law_things"] (defScope st_l_met) := ⟨rfl, rfl, rfl, by decide +kernel, rfl, by decide +kernel, by decide +kernel⟩
theorem ok_l_met (T : WorC fa fn ts cs w K mg) : Def P w K mg base 6 "_law_met" ["_law_things"] [.v] (fs_l_met K) :=
  T.def_ 21 (g := g_l_met K) sc_l_met (hbd := fun _ _ _ _ _ _ us hl => match us, hl with | [_], _ => rfl) (hmo := mo_l_met)
    (hbody := fun f cdv A outer s H E hr hgd => dss_cons (ds_own (p := true) 1 sc_l_met.nd (df_lst (an_nil)))
    (dss_cons (ds_set (p := true) 2 sc_l_met.nd (dc_p ((ok_l_asked T)) hr hgd (dak_cons (k := .v) (de_var 0) (dak_cons (k := .v) (de_str) (dak_one (k := .v) (de_int))))))
    (dss_cons (ds_while (p := true) (passes_of rfl) ((dw_and (dt_cmp od_notN (de_var 2) (de_non)) (dw_and (dt_cmp od_ge (de_var 2) (de_int)) (dw_and1 (dt_cmp (od_ltA (hu_ (n := 0) hr)) (de_callB ca_len (by rfl) (T.free 31) (by decide +kernel) (da_one (de_varW 1))) (de_int))))).dt) (dss_cons (ds_app (p := true) 1 (de_var 2))
    (dss_one (ds_set (p := true) 2 sc_l_met.nd (de_if (dt_cmp (od_ltA (hu_ (n := 0) hr)) (de_var 2) (de_int)) (dc_p ((ok_l_asked T)) hr hgd (dak_cons (k := .v) (de_var 0) (dak_cons (k := .v) (de_str) (dak_one (k := .v) (de_add (de_var 2) (de_int)))))) (de_un ud_neg (de_int)))))))
    (dss_frz 1 (dss_one (ds_ret (p := true) (de_if (dt_cmp (od_eqA (hu_ hr)) (de_var 2) (de_un ud_neg (de_int))) (de_var 1) (de_non))))))))
    (hfs := h_l_met)
abbrev st_l_walked : Stmt := topS 36
abbrev nm_l_walked : List PySem.Str := ["_law_things", "_law_found", "_law_place", "_law_one"]
theorem sc_l_walked : FnScope nm_l_walked ["_law_things"] (defScope st_l_walked) := ⟨rfl, rfl, rfl, by decide +kernel, rfl, by decide +kernel, by decide +kernel⟩
theorem ok_l_walked (T : WorC fa fn ts cs w K mg) : Def P w K mg base 7 "_law_walked" ["_law_things"] [.v] (fs_l_walked K) :=
  T.def_ 22 (g := g_l_walked K) sc_l_walked (hbd := fun _ _ _ _ _ _ us hl => match us, hl with | [_], _ => rfl) (hmo := mo_l_walked)
    (hbody := fun f cdv A outer s H E hr hgd => dss_cons (ds_set (p := true) 1 sc_l_walked.nd (dc_p ((ok_l_met T)) hr hgd (dak_one (k := .v) (de_var 0))))
    (dss_cons (ds_if (p := true) ((dw_or (dt_cmp od_isN (de_var 1) (de_non)) (dw_or (dt_cmp (od_neA (hu_ hr)) (de_callB ca_len (by rfl) (T.free 31) (by decide +kernel) (da_one (de_var 1))) (de_callB ca_len (by rfl) (T.free 31) (by decide +kernel) (da_one (de_var 0)))) (dw_or1 (dt_cmp (od_neA (hu_ hr)) ((df_comp (own := [("_law_one", 3)]) rfl sc_l_walked.nd (di_seq (de_var 0)) (blkOk_by (N := nm_l_walked) (sc := defScope st_l_walked) (by decide +kernel)) (fun _ _ _ _ _ => dt_name 3 sc_l_walked.nd) (fun _ _ _ _ _ => dtts_one (dt_cmp (od_notin (hu_ hr)) (de_var 3) (de_var 1))) (fun _ _ _ _ _ => de_var 3)).de) (de_lstN (an_nil)))))).dt) (dss_one (ds_ret (p := true) (de_bl))) (dss_nil))
    (dss_cons (ds_for (p := true) (passes_of rfl) rfl (di_enum (by rfl) (T.free 28) (de_var 1)) (dt_tup rfl (dts_cons (dt_name 2 sc_l_walked.nd) (dts_cons (dt_name 3 sc_l_walked.nd) dts_nil))) (dss_cons (ds_if (p := true) ((dw_and (dt_cmp od_gt (de_var 2) (de_int)) (dw_and1 (dt_cmp od_ge (de_ix (de_var 1) (de_op od_sub (de_var 2) (de_int))) (de_var 3)))).dt) (dss_one (ds_ret (p := true) (de_bl))) (dss_nil))
    (dss_cons (ds_if (p := true) (dt_cmp (od_neA (hu_ hr)) (de_lstN (an_cons (dc_p ((ok_l_asked T).mono (n := 6)) hr hgd (dak_cons (k := .v) (de_var 0) (dak_cons (k := .v) (de_str) (dak_one (k := .v) (de_var 3))))) (an_cons (dc_p ((ok_l_asked T).mono (n := 6)) hr hgd (dak_cons (k := .v) (de_var 0) (dak_cons (k := .v) (de_str) (dak_one (k := .v) (de_var 3))))) an_nil))) (de_lstN (an_cons (de_int) (an_cons (de_var 2) an_nil)))) (dss_one (ds_ret (p := true) (de_bl))) (dss_nil))
    (dss_one (ds_if (p := true) ((dw_and (dt_cmp (od_ltA (hu_ (n := 0) hr)) (de_var 3) (de_int)) (dw_and1 (dt_cmp (od_notin (hu_ hr)) (de_add (de_var 3) (de_int)) (de_var 1)))).dt) (dss_one (ds_if (p := true) (dt_cmp (od_neA (hu_ hr)) (de_lstN (an_cons (dc_p ((ok_l_asked T).mono (n := 6)) hr hgd (dak_cons (k := .v) (de_var 0) (dak_cons (k := .v) (de_str) (dak_one (k := .v) (de_add (de_var 3) (de_int)))))) (an_cons (dc_p ((ok_l_asked T).mono (n := 6)) hr hgd (dak_cons (k := .v) (de_var 0) (dak_cons (k := .v) (de_str) (dak_one (k := .v) (de_add (de_var 3) (de_int)))))) an_nil))) (de_lstN (an_cons (de_int) (an_cons (de_add (de_var 2) (de_int)) an_nil)))) (dss_one (ds_ret (p := true) (de_bl))) (dss_nil))) (dss_nil))))))
    (dss_one (ds_ret (p := true) (de_bl))))))
    (hfs := h_l_walked)
abbrev st_l_turned_about : Stmt := topS 37
abbrev nm_l_turned_about : List PySem.Str := ["_law_state", "_law_things", "_law_row", "_law_at", "_law_order", "_law_here", "_law_one", "_law_told"]
theorem sc_l_turned_about : FnScope nm_l_turned_about ["_law_state", "_law_things"] (defScope st_l_turned_about) := ⟨rfl, rfl, rfl, by decide +kernel, rfl, by decide +kernel, by decide +kernel⟩
theorem ok_l_turned_about (T : WorC fa fn ts cs w K mg) : Def P w K mg base 6 "_law_turned_about" ["_law_state", "_law_things"] [.v, .v] (fs_l_turned_about K) :=
  T.def_ 23 (g := g_l_turned_about K) sc_l_turned_about (hbd := fun _ _ _ _ _ _ us hl => match us, hl with | [_, _], _ => rfl) (hmo := mo_l_turned_about)
    (hbody := fun f cdv A outer s H E hr hgd => dss_cons (ds_set (p := true) 2 sc_l_turned_about.nd ((df_list (de_var 1) (by rfl) (T.free 32)).de))
    (dss_cons (ds_set (p := false) 3 sc_l_turned_about.nd (dc_m ((ok_l_take T).mono (n := 5)) hr hgd (dak_cons (k := .v) (de_var 0) (dak_one (k := .v) (de_add (de_callB ca_len (by rfl) (T.free 31) (by decide +kernel) (da_one (de_var 2))) (de_int))))))
    (dss_cons (ds_set (p := false) 4 sc_l_turned_about.nd (de_step (de_add (de_sl (de_var 2) (do_some (de_var 3)) (do_none)) (de_sl (de_var 2) (do_none) (do_some (de_var 3)))) (dc_m ((ok_l_pick T).mono (n := 5)) hr hgd (dak_cons (k := .v) (de_var 0) (dak_one (k := .v) (de_lstN (an_cons (de_int) (an_cons (de_un ud_neg (de_int)) an_nil))))))))
    (dss_cons (ds_set (p := true) 5 sc_l_turned_about.nd (de_var 1))
    (dss_cons (ds_for (p := true) (passes_of rfl) rfl (di_seq (de_var 4)) (dt_name 6 sc_l_turned_about.nd) (dss_cons (ds_asg (p := true) (dc_p ((ok_p_done T).mono (n := 5)) hr hgd (dak_cons (k := .v) (de_str) (dak_cons (k := .v) (de_var 5) (dak_one (k := .v) (de_tupN (an_cons (de_str) (an_cons (de_var 6) an_nil))))))) (dt_tup rfl (dts_cons (dt_name 5 sc_l_turned_about.nd) (dts_cons (dt_name 7 sc_l_turned_about.nd) dts_nil))))
    (dss_one (ds_if (p := true) ((dw_or (dt_cmp (od_neA (hu_ hr)) (de_var 7) (de_int)) (dw_or1 (dt_cmp (od_neA (hu_ hr)) (dc_p ((ok_l_asked T)) hr hgd (dak_cons (k := .v) (de_var 5) (dak_cons (k := .v) (de_str) (dak_one (k := .v) (de_var 6))))) (de_int)))).dt) (dss_one (ds_ret (p := true) (de_bl))) (dss_nil)))))
    (dss_cons (ds_if (p := true) (dt_cmp (od_neA (hu_ hr)) (de_var 5) (de_tupN (an_nil))) (dss_one (ds_ret (p := true) (de_bl))) (dss_nil))
    (dss_cons (ds_for (p := true) (passes_of rfl) rfl (di_seq (de_revA (de_var 4))) (dt_name 6 sc_l_turned_about.nd) (dss_cons (ds_asg (p := true) (dc_p ((ok_p_done T).mono (n := 5)) hr hgd (dak_cons (k := .v) (de_str) (dak_cons (k := .v) (de_var 5) (dak_one (k := .v) (de_tupN (an_cons (de_str) (an_cons (de_var 6) an_nil))))))) (dt_tup rfl (dts_cons (dt_name 5 sc_l_turned_about.nd) (dts_cons (dt_name 7 sc_l_turned_about.nd) dts_nil))))
    (dss_one (ds_if (p := true) ((dw_or (dt_cmp (od_neA (hu_ hr)) (de_var 7) (de_int)) (dw_or1 (dt_cmp (od_neA (hu_ hr)) (dc_p ((ok_p_done T).mono (n := 5)) hr hgd (dak_cons (k := .v) (de_str) (dak_cons (k := .v) (de_var 5) (dak_one (k := .v) (de_tupN (an_cons (de_str) (an_cons (de_var 6) an_nil))))))) (de_tupN (an_cons (de_var 5) (an_cons (de_int) an_nil)))))).dt) (dss_one (ds_ret (p := true) (de_bl))) (dss_nil)))))
    (dss_one (ds_ret (p := true) (de_cmp (od_eqA (hu_ hr)) ((df_list (de_var 5) (by rfl) (T.free 32)).de) (de_revA (de_var 4))))))))))))
    (hfs := h_l_turned_about)
abbrev st_law_k07 : Stmt := topS 38
abbrev nm_law_k07 : List PySem.Str := ["_law_script", "_law_state", "_law_things", "_law_turn", "_law_word", "_law_one", "_law_ahead", "_law_told"]
theorem sc_law_k07 : FnScope nm_law_k07 ["_law_script"] (defScope st_law_k07) := ⟨rfl, rfl, rfl, by decide +kernel, rfl, by decide +kernel, by decide +kernel⟩
theorem ok_law (T : WorC fa fn ts cs w K mg) : ∃ f fd, mg "law" = some (.ref f) ∧ (∀ (s : Shared) (u : Value), BindsTo s fd ⟨[u], []⟩ [("_law_script", u)]) ∧ ∀ base : Heap, FnG P w K mg base 8 f fd ["_law_script"] (toSp K [.s] (fs_law_k07 K)) :=
  T.law_ 24 (g := g_law_k07 K) sc_law_k07 (hbd := fun _ _ _ _ _ _ us hl => match us, hl with | [_], _ => rfl)
    (hbody := fun base f cdv A outer s H E hr hgd => dss_cons (ds_set (p := false) 1 sc_law_k07.nd (dc_m ((ok_l_begun T).mono (n := 7)) hr hgd (dak_scr 0)))
    (dss_cons (ds_set (p := false) 2 sc_law_k07.nd (dc_m ((ok_l_set T).mono (n := 7)) hr hgd (dak_cons (k := .v) (de_var 1) (dak_one (k := .v) (de_int)))))
    (dss_cons (ds_if (p := false) (dt_cmp (od_eqA (hu_ hr)) (dc_m ((ok_l_take T).mono (n := 7)) hr hgd (dak_cons (k := .v) (de_var 1) (dak_one (k := .v) (de_int)))) (de_int)) (dss_one (ds_set (p := false) 2 sc_law_k07.nd (dc_m ((ok_l_full T).mono (n := 7)) hr hgd (dak_cons (k := .v) (de_var 1) (dak_cons (k := .v) (de_str) (dak_one (k := .v) (de_int))))))) (dss_nil))
    (dss_cons (ds_for (p := true) (passes_of rfl) rfl (di_range1 (by rfl) (T.free 35) (da_one (de_add (de_callB (ca_minA rfl (hu_ hr)) (by rfl) (T.free 34) (by decide +kernel) (da_cons (de_lenS 0 (by rfl) (T.free 31)) (da_one (de_int)))) (de_int)))) (dt_name 3 sc_law_k07.nd) (dss_cons (ds_set (p := false) 4 sc_law_k07.nd (dc_m ((ok_l_pick T).mono (n := 7)) hr hgd (dak_cons (k := .v) (de_var 1) (dak_one (k := .v) (de_lstN (an_cons (de_str) (an_cons (de_str) an_nil)))))))
    (dss_cons (ds_if (p := true) (dt_cmp (od_eqA (hu_ hr)) (de_callB ca_len (by rfl) (T.free 31) (by decide +kernel) (da_one (de_var 2))) (de_int)) (dss_one (ds_set (p := true) 4 sc_law_k07.nd (de_str))) (dss_nil))
    (dss_cons (ds_set (p := false) 5 sc_law_k07.nd (dc_m ((ok_l_near T).mono (n := 7)) hr hgd (dak_cons (k := .v) (de_var 1) (dak_one (k := .v) ((df_list (de_var 2) (by rfl) (T.free 32)).de)))))
    (dss_cons (ds_set (p := true) 6 sc_law_k07.nd (dc_p ((ok_l_asked T).mono (n := 7)) hr hgd (dak_cons (k := .v) (de_var 2) (dak_cons (k := .v) (de_str) (dak_one (k := .v) (de_var 5))))))
    (dss_cons (ds_asg (p := true) (dc_p ((ok_p_done T).mono (n := 7)) hr hgd (dak_cons (k := .v) (de_str) (dak_cons (k := .v) (de_var 2) (dak_one (k := .v) (de_tupN (an_cons (de_var 4) (an_cons (de_var 5) an_nil))))))) (dt_tup rfl (dts_cons (dt_name 2 sc_law_k07.nd) (dts_cons (dt_name 7 sc_law_k07.nd) dts_nil))))
    (dss_cons (ds_if (p := true) ((dw_or (dt_cmp (od_neA (hu_ hr)) (de_var 7) (de_ix (de_lstN (an_cons (de_op od_sub (de_int) (de_var 6)) (an_cons (de_var 6) an_nil))) (de_callTy ca_int (by rfl) (T.free 29) (by decide +kernel) (da_one (de_cmp (od_eqA (hu_ hr)) (de_var 4) (de_str)))))) (dw_or1 (dt_cmp (od_neA (hu_ hr)) (dc_p ((ok_l_asked T).mono (n := 7)) hr hgd (dak_cons (k := .v) (de_var 2) (dak_cons (k := .v) (de_str) (dak_one (k := .v) (de_var 5))))) (de_callTy ca_int (by rfl) (T.free 29) (by decide +kernel) (da_one (de_cmp (od_eqA (hu_ hr)) (de_var 4) (de_str))))))).dt) (dss_one (ds_ret (p := true) (de_bl))) (dss_nil))
    (dss_one (ds_if (p := true) ((dw_and (dt_cmp (od_eqA (hu_ hr)) (de_op od_mod (de_var 3) (de_int)) (de_int)) (dw_and1 (dt_not (dt_tru (dc_p ((ok_l_walked T)) hr hgd (dak_one (k := .v) (de_var 2))))))).dt) (dss_one (ds_ret (p := true) (de_bl))) (dss_nil))))))))))
    (dss_one (ds_ret (p := false) (de_and (dc_p ((ok_l_walked T)) hr hgd (dak_one (k := .v) (de_var 2))) (de_one (dc_m ((ok_l_turned_about T).mono (n := 7)) hr hgd (dak_cons (k := .v) (de_var 1) (dak_one (k := .v) (de_var 2))))))))))))
    (hfs := h_law_k07)
end
end LW
namespace LW
open PySem PySem.Spec PySem.W PyProof.Rows L2 DL
def nms0 : List PySem.Str := ["ShelfError", "NoSort", "NoThings", "NoDeed", "TooMany", "need_sort", "is_thing", "is_pair", "are_unlike", "is_things", "is_deed", "need_place", "least_from", "done_on_set", "done_on_row", "done_on_map", "done", "_law_begun", "_law_take", "_law_pick"]
def nms1 : List PySem.Str := ["_law_thing", "_law_size", "_law_set", "_law_full", "_law_near", "_law_asked", "_law_met", "_law_walked", "_law_turned_about", "MOST_THERE", "LAST_THING", "SET_WORDS", "ROW_WORDS", "MAP_WORDS", "WORDS"]
def nms : List PySem.Str := nms0 ++ nms1
abbrev R : PySem.W.OpenRow := PySem.W.OpenLaw.row PySem.Challenge.rw_turnshelf_k07_whole_sets_walked
abbrev hk : PySem.W.Hook := He.hookX 5 fa fn ts [] (fun K => cs.all (Ck.ok K))
end LW
open PySem PySem.W PySem.Calls PyProof.Rows
set_option maxHeartbeats 0 in
theorem PySem.Challenge.cw_turnshelf_k07_whole_sets_walked_holds : PySem.Challenge.rw_turnshelf_k07_whole_sets_walked.Holds := by
  w_on; o_law
  o_head LW.hk
  case hw => w_witness2
  refine DL.walk_ofG (l := PySem.Challenge.rw_turnshelf_k07_whole_sets_walked) (n := 63) (k := 8) (x := "_law_script") rfl (by decide) ?_ ⟨rfl, by decide, by decide⟩ ?F
  case F =>
    intro w mg fa h Y G hmg0
    obtain ⟨K, kin, c⟩ := Y
    have hmg : mg ("law" : PySem.Str) = some (.ref fa) := by
      exact hmg0
    obtain ⟨f, fd, e, hb, hF⟩ := LW.ok_law (P := (PySem.Challenge.rw_turnshelf_k07_whole_sets_walked).prog) (w := w) (DL.WorC.mk (DL.WorT.mk (DL.Wor.mk ⟨h, kin, G⟩ c.t.d) c.t) c.more)
    rw [e] at hmg
    cases hmg
    exact ⟨K, fd, DL.toSp K [.s] (LW.fs_law_k07 K), kin, hb, fun H a zs hl hO hS => DL.only_scr (ks := []) hO hS ⟨zs, rfl, hl, fun _ => rfl⟩ LW.mo_law_k07, fun base _ _ => hF base⟩
  rfl
