import PyProof.Rows.All
import Wide.All
import OpenK.AllK
import Wide.FinOn
import HandS.ForMost
import HandS.IsInst
import HandS.DictComp
import HandS.Conv
import HandS.SortInts
import HandS.SetFor
import HandS.DeepEq
import HandS.Small
import HandS.Style
import HandS.Zip
import HandS.TupAny
import KE.GoesZip
import KE.GoesMore
import PySem.Challenge.RW_waitless_k20_whole_steps_of_a_round_exac
set_option Elab.async false
set_option linter.all false
set_option maxRecDepth 100000
/-! Rules of our own beside the layer's: a field as a target, list(range(a, b, c)). -/
namespace Wl
open PySem PySem.Spec PyProof.Rows L2 RZ

section
variable {X : Cx} {pos : Pos}
/-- e.f as a target -/
def gFld (K : PySem.W.Frag) (ta : TE) (f : Str) : TG := fun v σ H Q =>
  ta σ H fun x H2 => ∃ a C dx fs, x = .ref a ∧ H2 a = some (.ins C dx fs) ∧ Cls K C ∧ NoAttr K C f ∧ fs.length < 1000 ∧
    Q σ (upd H2 a (.ins C dx (putF f v fs)))
theorem pg_fld {o : Expr} {f : Str} {ta : TE} (ho : PE X o ta) : PG X (.Attribute o f pos) (gFld X.K ta f) := by
  refine ⟨fun pins s σ H v u Q I r h => ?_⟩
  rw [arm_assign_Attribute]
  refine wpAny_bind (wpAny_holding (thn (ho.run pins s σ H _ I h) fun ov s1 ⟨x, H1, I1, rx, a, C, dx, fs, ex, ea, c, n, l, q1⟩ => ?_))
  subst ex
  obtain rfl : ov = Value.ref a := rx
  refine wpAny_bind (wpAny_standAt (wpAny_bind (wpAny_holding ?_)))
  refine setattr_ok I1 ea c n l r fun s3 I3 => ?_
  exact wpAny_release ⟨σ, _, I3, q1⟩

/-- the ints a, a + c, .. (n of them) -/
def rgC (a c : Int) (n : Nat) : List V := (List.range n).map fun i => V.int (a + (i : Nat) * c)
theorem rgC_length (a c : Int) (n : Nat) : (rgC a c n).length = n := by unfold rgC; rw [List.length_map, List.length_range]
theorem vals_rgC {a c : Int} {n : Nat} {acc : Array Value} (h : ItemsOf (fun i v => ∃ t, v = .int (a + i * c) t) acc n) : Vals (rgC a c n) acc.toList := by
  have e : acc.toList.length = n := by rw [Array.length_toList]; exact h.1
  unfold rgC
  rw [← e]
  refine vals_of_get acc.toList _ fun j u hj => ?_
  obtain ⟨t, rfl⟩ := h.2 j u (by rw [← hj, Array.getElem?_toList])
  exact ⟨t, rfl⟩
def tLstRg3 (ta : TA) : TE := fun σ H Q => ta σ H fun vs H1 => ∃ (a b c : Int) (n : Nat), vs = [.int a, .int b, .int c] ∧ RgC a b c n ∧ n ≤ 2 ^ 24 ∧
  ∀ q, H1 q = none → Q (.ref q) (upd H1 q (.lst (rgC a c n)))
theorem pe_listRg3 {a b c : Expr} {ta : TA} {p p2 pos2 : Pos} (hc : X.calm = true) (hg : Gl X "list") (hm : X.mg "list" = none) (hg2 : Gl X "range") (hm2 : X.mg "range" = none) (ha : PA X [a, b, c] ta)
    (na : starEach [.Call (.Name "range" p2) [a, b, c] [] pos2] X.env = (false, eval (.Call (.Name "range" p2) [a, b, c] [] pos2) X.env) :: starEach [] X.env := by rfl)
    (hs : starEach [a, b, c] X.env = (false, eval a X.env) :: starEach [b, c] X.env := by rfl) (hpl : (backTo pos2 (starEach [b, c] X.env)).any (·.1) = false := by rfl) :
    PE X (.Call (.Name "list" p) [.Call (.Name "range" p2) [a, b, c] [] pos2] [] pos) (tLstRg3 ta) := by
  refine ⟨fun pins s σ H Q I h => ?_⟩
  refine Call_ (ld_blt I hg hm boot_list (PyProof.Rows.callWith_type1 (args_cons ?_ na) na))
  refine Call_ (ld_blt I hg2 hm2 boot_range (PyProof.Rows.callWith_type1 (thn (ha.run pos2 pins s σ H _ I h) fun us s1 ⟨vs, H1, I1, r1, q1⟩ => ?_) hs hpl))
  obtain ⟨i, j, k, n, e, ⟨c0, c1, c2, c3⟩, hn, q⟩ := q1
  subst e
  cases r1 with
  | cons r rr =>
    cases rr with
    | cons r' rr =>
      cases rr with
      | cons r'' rr =>
        cases rr
        obtain ⟨t, rfl⟩ := r
        obtain ⟨t', rfl⟩ := r'
        obtain ⟨t'', rfl⟩ := r''
        refine call_range_3 c0 ?_ (.inl (PyProof.noPylong_small c1))
        have I2 : L2.Inv X pins σ H1 { s1 with heap := s1.heap.push { cls := .type "range", data := .fields #[.int i t, .int j t', .int k t''] } } :=
          I1.kept (t' := s1.toks) fun b o e => Heap.get?_push_of_some _ e
        refine args_nil ?_
        refine call_list_range (n := n) (I1.ok.hd hc) (IsRange.new ..) c2 c3 hn fun h' tk acc c' hk e' hi => ?_
        refine ⟨.ref _, upd H1 _ (.lst (rgC i k n)), I2.laid hk (Nat.le_refl _) ⟨?_, acc.toList, c', vals_rgC hi, ?_⟩, rfl, q _ (I2.hok.fresh (Nat.le_refl _))⟩
        · rw [rgC_length, sizeLine_eq]; omega
        · rw [Array.toArray_toList]; exact e'
/-- a constant of the module -/
theorem pe_cst {x : Str} {v : V} (hg : Gl X x) (h : ∃ u, X.mg x = some u ∧ RelV v u) (hd : (x == ("__debug__" : Str)) = false := by decide) : PE X (.Name x pos) (tC v) := by
  obtain ⟨u, e, r⟩ := h
  exact pe_glob hg e r hd
end
section
variable {X : Cx}
/-- a statement and what follows it, joined by a word -/
def tMid (t u : TS) : TS := fun D σ H => ∃ M : L2.St → Hp → Prop, t { D with nx := M } σ H ∧ ∀ σ1 H1, M σ1 H1 → u D σ1 H1
theorem pss_mid {st : Stmt} {more : List Stmt} {t u : TS} (a : PS X st t) (b : PSs X more u) : PSs X (st :: more) (tMid t u) := by
  refine ⟨fun pins s σ H D I h => ?_⟩
  obtain ⟨M, hM, hu⟩ := h
  refine wpAny_execs_cons (thn (a.run pins s σ H { D with nx := M } I hM) fun f s1 q => ?_)
  cases f
  case next =>
    obtain ⟨σ1, H1, I1, q⟩ := q
    exact b.run pins s1 σ1 H1 D I1 (hu σ1 H1 q)
  all_goals exact q
end
/-! ### the rules that name the written part, with its name given: they serve within a comprehension's block, too -/
section
variable {X : Cx} {K : PySem.W.Frag}
theorem kx_list (h : X.K = K) : IxR X (rIxL K) := by rw [← h]; exact ix_list
theorem kx_tup (h : X.K = K) : IxR X (rIxT K) := by rw [← h]; exact ix_tup
theorem k_eqD (h : X.K = K) (hu : X.A.units + 64 < cLine) : OpR X (compareOp .Eq) (rEqD K) := by rw [← h]; exact op_eqD hu
theorem k_neD (h : X.K = K) (hu : X.A.units + 64 < cLine) : OpR X (compareOp .NotEq) (rNeD K) := by rw [← h]; exact op_neD hu
theorem k_eqV (h : X.K = K) (hu : X.A.units + 64 < cLine) : OpR X (compareOp .Eq) (rEqV K) := by rw [← h]; exact op_eqV hu
theorem k_in (h : X.K = K) : OpR X (compareOp .In) (rIn K false) := by rw [← h]; exact op_in_seq
theorem k_notIn (h : X.K = K) : OpR X (compareOp .NotIn) (rIn K true) := by rw [← h]; exact op_notIn_seq
theorem k_catA (h : X.K = K) : OpR X (binaryOp .Add) (rCatA K) := by rw [← h]; exact op_catA
theorem k_sll (h : X.K = K) : SlR X (rSlL K) := by rw [← h]; exact sl_list
theorem k_slt (h : X.K = K) : SlR X (rSlA K) := by rw [← h]; exact sl_tupA
def rLen (K : PySem.W.Frag) : List V → Hp → VK → Prop := fun xs H Q => ∃ p ys, xs = [.ref p] ∧ (SqL K H p ys ∨ SqT K H p ys) ∧ Q (.int ys.length) H
theorem k_len (h : X.K = K) : CallR X (.builtin "len") (rLen K) := by rw [← h]; exact call_len_seq
theorem k_isi (h : X.K = K) : CallR X (.builtin "isinstance") (rIsi K) := by rw [← h]; exact call_isi
def rListOf (K : PySem.W.Frag) : List V → Hp → VK → Prop := fun xs H Q => ∃ p ys, xs = [.ref p] ∧ (SqL K H p ys ∨ SqT K H p ys) ∧ ∀ l, H l = none → Q (.ref l) (upd H l (.lst ys))
theorem k_listOf (h : X.K = K) : CallR X (.type "list") (rListOf K) := by rw [← h]; exact call_list_of
def rTupOf (K : PySem.W.Frag) : List V → Hp → VK → Prop := fun xs H Q => ∃ p ys, xs = [.ref p] ∧ ((SqL K H p ys ∧ ∀ l, H l = none → Q (.ref l) (upd H l (.tup ys))) ∨ (SqT K H p ys ∧ Q (.ref p) H))
theorem k_tupOf (h : X.K = K) : CallR X (.type "tuple") (rTupOf K) := by rw [← h]; exact call_tuple_of
theorem k_sorted (h : X.K = K) : CallR X (.builtin "sorted") (rSortedI K) := by rw [← h]; exact cr_sortedI
theorem k_count (h : X.K = K) : MtR X "list.count" (rCntI K) := by rw [← h]; exact mt_lcount
theorem pe_kfld {e : Expr} {f : Str} {pos : Pos} {ta : TE} (h : X.K = K) (he : PE X e ta) (hb : attributeBase e f X.env (eval e X.env) = eval e X.env) : PE X (.Attribute e f pos) (tFld K ta f) := by
  rw [← h]
  exact L2.pe_fld he hb
theorem pg_ktup {es : List Expr} {k : Nat} {t : TGs} {n : Nat} {pos : Pos} (hK : X.K = K) (hc : X.calm = true) (h : PGs X es t)
    (hn : (assignEach es X.env).length = n := by rfl) (hst : (assignEach es X.env).findIdx? (·.1) = none := by rfl) : PG X (.Tuple es k pos) (gTup K n t) := by
  rw [← hK]
  exact pg_tup hc h hn hst
variable {o e : Expr} {es : List Expr} {to : TE} {t : TA} {name : Str} {apos cpos : Pos} {T id : String} {r : V → List V → Hp → VK → Prop}
theorem pe_kbm0 (hK : X.K = K) (pa : PlainAttrs T) (slot : Slot T name id) (hty : typeOf (.builtin id) = pure (.type "method_descriptor")) (hm : MtR X id r) (ho : PE X o to)
    (hbase : attributeBase o name X.env (eval o X.env) = eval o X.env := by rfl) (hline : (apos.endLine == cpos.line) = true := by rfl) : PE X (.Call (.Attribute o name apos) [] [] cpos) (tBM0 K T r to) := by
  rw [← hK]
  exact pe_bm0 pa slot hty hm ho hbase hline
theorem pe_kbm (hK : X.K = K) (pa : PlainAttrs T) (slot : Slot T name id) (hty : typeOf (.builtin id) = pure (.type "method_descriptor")) (hm : MtR X id r) (ho : PE X o to) (ha : PA X (e :: es) t)
    (hbase : attributeBase o name X.env (eval o X.env) = eval o X.env := by rfl)
    (hfew : ((backTo cpos (starEach (e :: es) X.env)).all (fun x => !x.1) && (backToKw cpos (keywordEach [] X.env)).all (fun x => x.1.isSome)
      && decide ((e :: es).length + ([] : List Keyword).length + (if ([] : List Keyword).isEmpty then 0 else 1) < 30)) = true := by rfl)
    (hline : (apos.endLine == cpos.line) = true := by rfl) (hs : starEach (e :: es) X.env = (false, eval e X.env) :: starEach es X.env := by rfl)
    (hpl : (backTo cpos (starEach es X.env)).any (·.1) = false := by rfl) : PE X (.Call (.Attribute o name apos) (e :: es) [] cpos) (tBM K T r to t) := by
  rw [← hK]
  exact pe_bm pa slot hty hm ho ha hbase hfew hline hs hpl
end
end Wl

set_option maxRecDepth 100000
/-! for a, b in zip(xs, ys), where xs and ys are a list or a tuple each. -/
namespace Wl
open PySem PySem.Spec PyProof.Rows L2

/-- a list (false) or a tuple (true) at a -/
def Sq (K : PySem.W.Frag) : Bool → Hp → Addr → List V → Prop
  | false => SqL K
  | true => SqT K
def isSrc : Bool → Heap → Addr → Array Value → Prop
  | false => fun h a its => h.IsList a its
  | true => fun h a its => h.IsTuple a its
def isIt : Bool → Heap → Addr → Addr → Nat → Prop
  | false => fun h i l n => h.IsListIter i l n
  | true => fun h i l n => h.IsTupleIter i l n
def itObj : Bool → Addr → Obj
  | false => fun l => { cls := .type "list_iterator", data := .fields #[.ref l, .int 0 0] }
  | true => fun l => { cls := .type "tuple_iterator", data := .fields #[.ref l, .int 0 0] }
section
variable {X : Cx} {pins : List (Addr × Obj)} {σ : L2.St} {H : Hp} {s : Shared} {k : Bool} {a : Addr} {xs ys : List V}
theorem sq_get (I : L2.Inv X pins σ H s) (h : Sq X.K k H a xs) : ∃ its : List Value, Vals xs its ∧ isSrc k s.heap a its.toArray ∧ a < s.heap.objs.size := by
  cases k with
  | false =>
    obtain ⟨its, rv, p, _⟩ := I.list h
    exact ⟨its, rv, p.isList, p.lt⟩
  | true =>
    obtain ⟨its, rv, p, _⟩ := I.tuple h
    obtain ⟨o, ho, _⟩ := id p
    exact ⟨its, rv, p, Heap.lt_size ho⟩
theorem sq_inj (I : L2.Inv X pins σ H s) (h : Sq X.K k H a xs) (h' : Sq X.K k H a ys) : xs = ys := by
  cases k with
  | false => exact I.list_inj h h'
  | true => exact I.tuple_inj h h'
end
theorem isIt.fld {k : Bool} {h : Heap} {i l : Addr} {n : Nat} (x : isIt k h i l n) : ∃ o vs, h.get? i = some o ∧ o.data = .fields vs := by
  cases k with
  | false => obtain ⟨o, e, _, d⟩ := x; exact ⟨o, _, e, d⟩
  | true => obtain ⟨o, e, _, d⟩ := x; exact ⟨o, _, e, d⟩
theorem isIt.move {k : Bool} {h h' : Heap} {i l : Addr} {n : Nat} (x : isIt k h i l n) (e : ∀ o, h.get? i = some o → h'.get? i = some o) : isIt k h' i l n := by
  cases k with
  | false => exact Heap.IsListIter.at x e
  | true => exact Heap.IsTupleIter.at x e
theorem draws_k {prog : Program} {w : World} {A : Around} (hh : A.handled = none) (k : Bool) (it l : Addr) (hne : l ≠ it) (items : Array Value) :
    Draws prog w A it [it, l] items.size (fun i v => items[i]? = some v) (fun i h => isIt k h it l i ∧ isSrc k h l items) := by
  cases k with
  | false => exact Draws.list hh it l hne items
  | true => exact Draws.tuple hh it l hne items
theorem begins_k (k : Bool) (l : Addr) (items : Array Value) : Begins (.ref l) (itObj k l) fun h => isSrc k h l items := by
  cases k with
  | false => exact begins_list l items
  | true => exact begins_tuple l items
theorem isIt_new (k : Bool) {h : Heap} {i l : Addr} (e : h.get? i = some (itObj k l)) : isIt k h i l 0 := by
  cases k with
  | false => exact ⟨_, e, rfl, rfl⟩
  | true => exact ⟨_, e, rfl, rfl⟩

/-- the items of both, in new pairs -/
def ItzK (K : PySem.W.Frag) (k1 k2 : Bool) (a b : Addr) : It :=
  ⟨fun i H => ∃ (xs ys : List V) (x y : V), Sq K k1 H a xs ∧ Sq K k2 H b ys ∧ xs[i]? = some x ∧ ys[i]? = some y,
    fun i H v H' => ∃ T x y, v = .ref T ∧ H T = none ∧ H' = upd H T (.tup [x, y]) ∧ (∀ xs, Sq K k1 H a xs → xs[i]? = some x) ∧ ∀ ys, Sq K k2 H b ys → ys[i]? = some y,
    fun i H => ∃ xs ys : List V, Sq K k1 H a xs ∧ Sq K k2 H b ys ∧ i ≤ xs.length ∧ i ≤ ys.length ∧ (i = xs.length ∨ i = ys.length)⟩
/-- five new cells, apart from each other and from the sources -/
structure Five (n z TI TO i1 i2 a b : Nat) : Prop where
  ez : z = n + 4
  eTI : TI = n + 2
  eTO : TO = n + 3
  e1 : i1 = n
  e2 : i2 = n + 1
  la : a < n
  lb : b < n
theorem Five.sep {n z TI TO i1 i2 a b : Nat} (D : Five n z TI TO i1 i2 a b) : ZipSep2 z TI TO i1 i2 [i1, a] [i2, b] := by
  obtain ⟨rfl, rfl, rfl, rfl, rfl, la, lb⟩ := D
  have no : ∀ {x y z : Nat}, x ≠ y → x ≠ z → x ∉ [y, z] := fun h1 h2 h => by simp at h; omega
  exact ⟨fun e => absurd (show (_ : Nat) = _ from e) (by omega), fun e => absurd (show (_ : Nat) = _ from e) (by omega), fun e => absurd (show (_ : Nat) = _ from e) (by omega), fun e => absurd (show (_ : Nat) = _ from e) (by omega), by simp, no (by omega) (by omega), no (by omega) (by omega),
    fun e => absurd (show (_ : Nat) = _ from e) (by omega), by simp, no (by omega) (by omega), no (by omega) (by omega), no (by omega) (by omega), no (by omega) (by omega)⟩
theorem Five.a1 {n z TI TO i1 i2 a b : Nat} (D : Five n z TI TO i1 i2 a b) : a ≠ i1 := by
  obtain ⟨rfl, rfl, rfl, rfl, rfl, la, lb⟩ := D
  omega
theorem Five.b2 {n z TI TO i1 i2 a b : Nat} (D : Five n z TI TO i1 i2 a b) : b ≠ i2 := by
  obtain ⟨rfl, rfl, rfl, rfl, rfl, la, lb⟩ := D
  omega
theorem turn_zipK {P : Program} {w : World} {K : PySem.W.Frag} {k1 k2 : Bool} {elts : List Expr} {kk : Nat} {tpos : Pos} {n a b z TI TO i1 i2 : Nat} (D : Five n z TI TO i1 i2 a b) :
    Turn P w K (.Tuple elts kk tpos) (ItzK K k1 k2 a b) [z, TI, TO, i1, i2] z
      (fun i h => IsZip h z TI TO .none ∧ IsTupOf2 h TI (.ref i1) (.ref i2) ∧ (∃ x y, IsTupOf2 h TO x y) ∧ isIt k1 h i1 a i ∧ isIt k2 h i2 b i) where
  mem := by simp
  obj := fun i h st c hc => by
    obtain ⟨hz, hTI, ⟨x, y, hTO⟩, h1, h2⟩ := st
    obtain ⟨o1, v1, e1, d1⟩ := h1.fld
    obtain ⟨o2, v2, e2, d2⟩ := h2.fld
    have e' : c = z ∨ c = TI ∨ c = TO ∨ c = i1 ∨ c = i2 := by simpa using hc
    rcases e' with rfl | rfl | rfl | rfl | rfl
    · exact ⟨_, hz, fun _ z => nomatch z⟩
    · exact ⟨_, hTI, fun _ z => nomatch z⟩
    · exact ⟨_, hTO, fun _ z => nomatch z⟩
    · exact ⟨o1, e1, fun v q => by rw [d1] at q; cases q⟩
    · exact ⟨o2, e2, fun v q => by rw [d2] at q; cases q⟩
  keep := fun i h h' st k => by
    obtain ⟨hz, hTI, ⟨x, y, hTO⟩, h1, h2⟩ := st
    exact ⟨k z (by simp) _ hz, k TI (by simp) _ hTI, ⟨x, y, k TO (by simp) _ hTO⟩, h1.move fun o q => k i1 (by simp) o q, h2.move fun o q => k i2 (by simp) o q⟩
  item := by
    intro X hP hw hK hc i pins s σ H E I hf st hg
    subst hP hw hK
    obtain ⟨hz, hTI, ⟨x0, y0, hTO⟩, h1, h2⟩ := st
    obtain ⟨xs, ys, x, y, hqx, hqy, hx, hy⟩ := hg
    obtain ⟨its, rv, p, la⟩ := sq_get I hqx
    obtain ⟨its2, rv2, p2, lb⟩ := sq_get I hqy
    obtain ⟨u, hu, ru⟩ := rv.get hx
    obtain ⟨u2, hu2, ru2⟩ := rv2.get hy
    have hzl : z < s.heap.objs.size := Heap.lt_size hz
    have S := D.sep
    have D1 := draws_k (prog := X.prog) (w := X.w) (A := X.A.in1) (I.ok.hd hc) k1 i1 a D.a1 its.toArray
    have D2 := draws_k (prog := X.prog) (w := X.w) (A := X.A.in1) (I.ok.hd hc) k2 i2 b D.b2 its2.toArray
    have n1 : i < its.toArray.size := by
      have := List.getElem?_eq_some_iff.mp hu
      simpa using this.1
    have n2 : i < its2.toArray.size := by
      have := List.getElem?_eq_some_iff.mp hu2
      simpa using this.1
    refine wpAny_pyNext_zipD2_item S D1 D2 hz hTI hTO ⟨h1, p⟩ ⟨h2, p2⟩ n1 n2 fun x1 x2 h' tk y1 y2 z' TO' st1' st2' hT hsz hk => ?_
    have e1 : x1 = u := by rw [List.getElem?_toArray, hu] at y1; exact (Option.some.inj y1).symm
    have e2 : x2 = u2 := by rw [List.getElem?_toArray, hu2] at y2; exact (Option.some.inj y2).symm
    subst e1 e2
    refine ⟨_, rfl, wpAny_letOwnedTupleGo_zip (s := { s with heap := h', toks := tk }) z' fun h'' z'' sb => ?_⟩
    have hT2 : h''.get? s.heap.objs.size = some { cls := .type "tuple", data := .seq #[x1, x2] } := (sb.2 _ (Nat.ne_of_gt hzl)).trans hT
    have new : ObjOk X.prog X.w (upd H s.heap.objs.size (.tup [x, y])) h'' s.heap.objs.size (.tup [x, y]) :=
      ⟨by show 2 ≤ sizeLine; decide, [x1, x2], .cons ru (.cons ru2 .nil), ⟨_, hT2, rfl, _, rfl⟩⟩
    have kk : ∀ (c : Addr) (o : Obj), c ∉ [z, TI, TO, i1, i2] → s.heap.get? c = some o → h''.get? c = some o := fun c o hb q => by
      simp at hb
      exact (sb.2 c hb.1).trans (hk c o hb.1 hb.2.2.1 hb.2.2.2.1 hb.2.2.2.2 q)
    have I1 : L2.Inv X pins σ (upd H s.heap.objs.size (.tup [x, y])) { s with heap := h'', toks := tk } :=
      I.turnedNew (ch := [z, TI, TO, i1, i2]) kk hf (Nat.le_refl _) new
    have ne : i1 ≠ z ∧ i2 ≠ z ∧ TO ≠ z := ⟨S.zi1.symm, S.zi2.symm, S.TOz⟩
    refine ⟨.ref s.heap.objs.size, _, I1, rfl, ⟨_, x, y, rfl, I.hok.fresh (Nat.le_refl _), rfl, fun l hl => by rw [sq_inj I hl hqx]; exact hx, fun l hl => by rw [sq_inj I hl hqy]; exact hy⟩, ⟨z'', ?_, ⟨x1, x2, ?_⟩, ?_, ?_⟩, fun c hcm => ?_⟩
    · exact (sb.2 _ S.TIz).trans (hk _ _ S.TIz S.TITO S.TIi1 S.TIi2 hTI)
    · exact (sb.2 _ S.TOz).trans TO'
    · exact st1'.1.move fun o q => (sb.2 _ ne.1).trans q
    · exact st2'.1.move fun o q => (sb.2 _ ne.2.1).trans q
    · have hlt : c < s.heap.objs.size := by
        obtain ⟨o1, v1, g1, _⟩ := h1.fld
        obtain ⟨o2, v2, g2, _⟩ := h2.fld
        have e' : c = z ∨ c = TI ∨ c = TO ∨ c = i1 ∨ c = i2 := by simpa using hcm
        rcases e' with q | q | q | q | q
        · rw [q]; exact hzl
        · rw [q]; exact Heap.lt_size hTI
        · rw [q]; exact Heap.lt_size hTO
        · rw [q]; exact Heap.lt_size g1
        · rw [q]; exact Heap.lt_size g2
      rw [upd_ne (Nat.ne_of_lt hlt)]
      exact (hf c hcm).1
  done := by
    intro X hP hw hK hc i pins s σ H E I hf st hg
    subst hP hw hK
    obtain ⟨hz, hTI, ⟨x0, y0, hTO⟩, h1, h2⟩ := st
    obtain ⟨xs, ys, hqx, hqy, l1, l2, hend⟩ := hg
    obtain ⟨its, rv, p, la⟩ := sq_get I hqx
    obtain ⟨its2, rv2, p2, lb⟩ := sq_get I hqy
    have r1 := rv.length
    have r2 := rv2.length
    have D1 := draws_k (prog := X.prog) (w := X.w) (A := X.A.in1) (I.ok.hd hc) k1 i1 a D.a1 its.toArray
    have D2 := draws_k (prog := X.prog) (w := X.w) (A := X.A.in1) (I.ok.hd hc) k2 i2 b D.b2 its2.toArray
    exact wpAny_pyNext_zipD2_end D.sep D1 D2 hz hTI hTO ⟨h1, p⟩ ⟨h2, p2⟩ (by simp; omega) (by simp; omega) (by simp; omega) fun h' tk hk => ⟨rfl, I.turnedL (ch := [z, TI, TO, i1, i2]) (fun c o hb q => by
      simp at hb
      exact hk c o hb.1 hb.2.2.1 hb.2.2.2.1 hb.2.2.2.2 q) hf⟩
  self := fun A i s Q E st h => wpAny_pyIter_zip st.1 h
def iZipK (K : PySem.W.Frag) (k1 k2 : Bool) (ta : TA) : TI := fun σ H R => ta σ H fun vs H1 => ∃ a b xs ys, vs = [.ref a, .ref b] ∧ Sq K k1 H1 a xs ∧ Sq K k2 H1 b ys ∧ R (ItzK K k1 k2 a b) H1
theorem pi_zipK (k1 k2 : Bool) {X : Cx} {e e2 : Expr} {ta : TA} {p pos tpos : Pos} {elts : List Expr} {kk : Nat} (hg : Gl X "zip") (hm : X.mg "zip" = none) (ha : PA X [e, e2] ta)
    (hs : starEach [e, e2] X.env = (false, eval e X.env) :: starEach [e2] X.env := by rfl) (hpl : (backTo pos (starEach [e2] X.env)).any (·.1) = false := by rfl) :
    PI X (.Tuple elts kk tpos) (.Call (.Name "zip" p) [e, e2] [] pos) (iZipK X.K k1 k2 ta) := by
  refine ⟨fun pins s σ H R I h => ?_⟩
  refine Call_ (ld_blt I hg hm PyProof.Rows.boot_zip (PyProof.Rows.callWith_type1 (thn (ha.run pos pins s σ H _ I h) fun us s1 ⟨vs, H1, I1, r1, q1⟩ => ?_) hs hpl))
  obtain ⟨a, b, xs, ys, ex, hqx, hqy, q⟩ := q1
  subst ex
  cases r1 with
  | cons r rr =>
    cases rr with
    | cons r' rr =>
      cases rr
      cases r
      cases r'
      obtain ⟨its, rv, p1, la⟩ := sq_get I1 hqx
      obtain ⟨its2, rv2, p2, lb⟩ := sq_get I1 hqy
      refine zip_begins2 (begins_k k1 a its.toArray) (begins_k k2 b its2.toArray) p1 p2 fun h' hz hTI hTO h1 h2 hsz hk => wpAny_pyIter_zip hz ?_
      have I2 : L2.Inv X pins σ H1 { s1 with heap := h' } := I1.kept (t' := s1.toks) hk
      have D : Five s1.heap.objs.size (s1.heap.objs.size + 4) (s1.heap.objs.size + 2) (s1.heap.objs.size + 3) s1.heap.objs.size (s1.heap.objs.size + 1) a b := ⟨rfl, rfl, rfl, rfl, rfl, la, lb⟩
      refine ⟨_, [s1.heap.objs.size + 4, s1.heap.objs.size + 2, s1.heap.objs.size + 3, s1.heap.objs.size, s1.heap.objs.size + 1], _, _, H1, rfl, I2, turn_zipK D, ⟨hz, hTI, ⟨_, _, hTO⟩, isIt_new k1 h1, isIt_new k2 h2⟩, fun c hcm => ?_, q⟩
      have hle : s1.heap.objs.size ≤ c := by
        have e' : c = s1.heap.objs.size + 4 ∨ c = s1.heap.objs.size + 2 ∨ c = s1.heap.objs.size + 3 ∨ c = s1.heap.objs.size ∨ c = s1.heap.objs.size + 1 := by simpa using hcm
        rcases e' with w | w | w | w | w <;> rw [w]
        all_goals first | exact Nat.le_refl _ | exact Nat.le_add_right _ _
      exact I1.fpOk hle (I1.hok.fresh hle)
end Wl

set_option maxRecDepth 100000
/-! Trees of tuples in the heap; lists and tuples of ints as data. -/
namespace Wl
open PySem PySem.Spec PyProof.Rows L2

/-- tuples stay -/
def Tups (H H' : Hp) : Prop := ∀ b xs, H b = some (.tup xs) → H' b = some (.tup xs)
theorem Tups.rfl' {H : Hp} : Tups H H := fun _ _ h => h
theorem Tups.trans {H H1 H2 : Hp} (a : Tups H H1) (b : Tups H1 H2) : Tups H H2 := fun c xs h => b c xs (a c xs h)
theorem same_tups {H H' : Hp} (s : Same H H') : Tups H H' := fun b xs h => s b _ h
theorem Tups.new {H : Hp} {p : Addr} {o : HO} (h : H p = none) : Tups H (upd H p o) := fun b xs e => by rw [upd_ne (ne_of_none e h)]; exact e
theorem Tups.put {H : Hp} {p : Addr} {o u : HO} (h : H p = some u) (hu : ∀ xs, u ≠ .tup xs) : Tups H (upd H p o) := fun b xs e => by
  rw [upd_ne (ne_of e h fun z => hu xs z.symm)]
  exact e
theorem same_new {H : Hp} {p : Addr} {o : HO} (h : H p = none) : Same H (upd H p o) := fun b x e => by
  rw [upd_ne (ne_of_none e h)]
  exact e
theorem same_snoc {H H1 : Hp} (s : Same H H1) {p : Addr} {o : HO} (h : H1 p = none) : Same H (upd H1 p o) := s.trans (same_new h)

mutual
/-- the value v is the tree d, of tuples, ints, texts, truths, None -/
inductive Tr (H : Hp) : V → PyData → Prop
  | non : Tr H .non .none
  | bl (b : Bool) : Tr H (.bl b) (.bool b)
  | int (i : Int) : Tr H (.int i) (.int i)
  | str (x : Str) : Tr H (.str x) (.str x)
  | tup {a : Addr} {xs : List V} {ds : List PyData} : H a = some (.tup xs) → TrAll H xs ds → Tr H (.ref a) (.tuple ds)
inductive TrAll (H : Hp) : List V → List PyData → Prop
  | nil : TrAll H [] []
  | cons {v : V} {vs : List V} {d : PyData} {ds : List PyData} : Tr H v d → TrAll H vs ds → TrAll H (v :: vs) (d :: ds)
end
mutual
theorem Tr.mono {H H' : Hp} (t : Tups H H') : ∀ {v : V} (d : PyData), Tr H v d → Tr H' v d
  | _, .none, h => by cases h; exact .non
  | _, .bool b, h => by cases h; exact .bl b
  | _, .int i, h => by cases h; exact .int i
  | _, .str x, h => by cases h; exact .str x
  | _, .tuple ds, h => by cases h with | tup e r => exact .tup (t _ _ e) (TrAll.mono t ds r)
  | _, .list _, h => by cases h
  | _, .dict _, h => by cases h
theorem TrAll.mono {H H' : Hp} (t : Tups H H') : ∀ {vs : List V} (ds : List PyData), TrAll H vs ds → TrAll H' vs ds
  | _, [], h => by cases h; exact .nil
  | _, d :: ds, h => by cases h with | cons a b => exact .cons (Tr.mono t d a) (TrAll.mono t ds b)
end
mutual
theorem Tr.dp {K : PySem.W.Frag} {H : Hp} : ∀ {v : V} (d : PyData), Tr H v d → Dp K H v d
  | _, .none, h => by cases h; exact .non
  | _, .bool b, h => by cases h; exact .bl b
  | _, .int i, h => by cases h; exact .int i
  | _, .str x, h => by cases h; exact .str x
  | _, .tuple ds, h => by cases h with | tup e r => exact .tup (SqT.of e) (TrAll.dp ds r)
  | _, .list _, h => by cases h
  | _, .dict _, h => by cases h
theorem TrAll.dp {K : PySem.W.Frag} {H : Hp} : ∀ {vs : List V} (ds : List PyData), TrAll H vs ds → DpAll K H vs ds
  | _, [], h => by cases h; exact .nil
  | _, d :: ds, h => by cases h with | cons a b => exact .cons (Tr.dp d a) (TrAll.dp ds b)
end
theorem TrAll.len {H : Hp} : ∀ {vs : List V} {ds : List PyData}, TrAll H vs ds → vs.length = ds.length
  | _, [], h => by cases h; rfl
  | _, _ :: _, h => by cases h with | cons a b => simp [TrAll.len b]
theorem TrAll.get {H : Hp} : ∀ {vs : List V} {ds : List PyData} {i : Nat} {d : PyData}, TrAll H vs ds → ds[i]? = some d → ∃ v, vs[i]? = some v ∧ Tr H v d
  | _, [], _, _, h, e => by simp at e
  | _, x :: _, 0, d, h, e => by
    cases h with
    | cons a b =>
      simp at e
      subst e
      exact ⟨_, rfl, a⟩
  | _, x :: ds, i + 1, d, h, e => by
    cases h with
    | cons a b =>
      obtain ⟨v, e2, r⟩ := TrAll.get b (by simpa using e)
      exact ⟨v, by simpa using e2, r⟩
theorem TrAll.snoc {H : Hp} : ∀ {vs : List V} {ds : List PyData} {v : V} {d : PyData}, TrAll H vs ds → Tr H v d → TrAll H (vs ++ [v]) (ds ++ [d])
  | _, [], _, _, h, r => by cases h; exact .cons r .nil
  | _, _ :: _, _, _, h, r => by cases h with | cons a b => exact .cons a (TrAll.snoc b r)
theorem trInts {H : Hp} : ∀ ns : List Int, TrAll H (ns.map V.int) (ns.map PyData.int)
  | [] => .nil
  | n :: r => .cons (.int n) (trInts r)
theorem dpInts {K : PySem.W.Frag} {H : Hp} (ns : List Int) : DpAll K H (ns.map V.int) (ns.map PyData.int) := TrAll.dp _ (trInts ns)

/-- data that the comparison takes -/
def fit (n : Nat) (d : PyData) : Prop := d.canLay0 = true ∧ d.depth ≤ n
def fitAll (n : Nat) (ds : List PyData) : Prop := PyData.canLayAll0 ds = true ∧ PyData.depthAll ds ≤ n
theorem fit.le {n m : Nat} {d : PyData} (h : fit n d) (l : n ≤ m) : fit m d := ⟨h.1, Nat.le_trans h.2 l⟩
theorem fitAll.nil {n : Nat} : fitAll n [] := ⟨by simp [PyData.canLayAll0], by simp [PyData.depthAll]⟩
theorem fitAll.cons {n : Nat} {d : PyData} {ds : List PyData} (h : fit n d) (t : fitAll n ds) : fitAll n (d :: ds) :=
  ⟨by simp [PyData.canLayAll0, h.1, t.1], by simp only [PyData.depthAll]; exact Nat.max_le.mpr ⟨h.2, t.2⟩⟩
theorem fitAll_iff {n : Nat} {ds : List PyData} : fitAll n ds ↔ ∀ d ∈ ds, fit n d := by
  induction ds with
  | nil => exact ⟨fun _ d h => absurd h (by simp), fun _ => fitAll.nil⟩
  | cons x r ih =>
    constructor
    · intro h d hd
      have h1 : x.canLay0 = true ∧ PyData.canLayAll0 r = true := by simpa [PyData.canLayAll0] using h.1
      have h2 := h.2
      simp only [PyData.depthAll] at h2
      have h3 := Nat.max_le.mp h2
      rcases List.mem_cons.mp hd with e | e
      · subst e; exact ⟨h1.1, h3.1⟩
      · exact ih.mp ⟨h1.2, h3.2⟩ d e
    · intro h
      exact .cons (h x List.mem_cons_self) (ih.mpr fun d hd => h d (List.mem_cons_of_mem _ hd))
theorem fit.int {n : Nat} (i : Int) : fit n (.int i) := ⟨by simp [PyData.canLay0], by simp [PyData.depth]⟩
theorem fit.none {n : Nat} : fit n .none := ⟨by simp [PyData.canLay0], by simp [PyData.depth]⟩
theorem fit.bool {n : Nat} (b : Bool) : fit n (.bool b) := ⟨by simp [PyData.canLay0], by simp [PyData.depth]⟩
theorem fit.tup {n : Nat} {ds : List PyData} (h : fitAll n ds) : fit (n + 1) (.tuple ds) := ⟨by simp [PyData.canLay0, h.1], by simp only [PyData.depth]; exact Nat.succ_le_succ h.2⟩
theorem fit.lst {n : Nat} {ds : List PyData} (h : fitAll n ds) : fit (n + 1) (.list ds) := ⟨by simp [PyData.canLay0, h.1], by simp only [PyData.depth]; exact Nat.succ_le_succ h.2⟩
theorem fitInts {n : Nat} (ns : List Int) : fitAll n (ns.map PyData.int) := fitAll_iff.mpr fun d hd => by
  obtain ⟨i, _, rfl⟩ := List.mem_map.mp hd
  exact .int i
theorem shaped_of {n : Nat} {d : PyData} (h : fit n d) (l : n ≤ 64) : SeqAt.shaped d = true := by
  unfold SeqAt.shaped
  rw [h.1, decide_eq_true (Nat.le_trans h.2 l)]
  rfl
theorem shapedInts (ns : List Int) : SeqAt.shaped (.list (ns.map PyData.int)) = true := shaped_of (n := 1) (.lst (fitInts ns)) (by decide)
theorem shapedIntsT (ns : List Int) : SeqAt.shaped (.tuple (ns.map PyData.int)) = true := shaped_of (n := 1) (.tup (fitInts ns)) (by decide)
theorem shapedNil : SeqAt.shaped (.list []) = true := shapedInts []
theorem shapedNilT : SeqAt.shaped (.tuple []) = true := shapedIntsT []
theorem eqv_ints : ∀ ns ms : List Int, PyData.eqvAll (ns.map PyData.int) (ms.map PyData.int) = decide (ns = ms)
  | [], [] => by simp [PyData.eqvAll]
  | [], _ :: _ => by simp [PyData.eqvAll]
  | _ :: _, [] => by simp [PyData.eqvAll]
  | a :: r, b :: t => by
    have ih := eqv_ints r t
    simp only [List.map_cons, PyData.eqvAll, PyData.eqv, ih]
    by_cases e : a = b
    · subst e; simp
    · simp [e]
end Wl
namespace Wl
open PySem PySem.Spec PyProof.Rows L2
theorem Tr.inv {H : Hp} {v : V} {ds : List PyData} (h : Tr H v (.tuple ds)) : ∃ a xs, v = .ref a ∧ H a = some (.tup xs) ∧ TrAll H xs ds := by
  cases h with
  | tup e r => exact ⟨_, _, rfl, e, r⟩
theorem TrAll.inv2 {H : Hp} {vs : List V} {d e : PyData} (h : TrAll H vs [d, e]) : ∃ x y, vs = [x, y] ∧ Tr H x d ∧ Tr H y e := by
  cases h with
  | cons a r =>
    cases r with
    | cons b z =>
      cases z
      exact ⟨_, _, rfl, a, b⟩
theorem Tr.inv2 {H : Hp} {v : V} {d e : PyData} (h : Tr H v (.tuple [d, e])) : ∃ a x y, v = .ref a ∧ H a = some (.tup [x, y]) ∧ Tr H x d ∧ Tr H y e := by
  obtain ⟨a, xs, rfl, ea, r⟩ := h.inv
  obtain ⟨x, y, rfl, rx, ry⟩ := r.inv2
  exact ⟨a, x, y, rfl, ea, rx, ry⟩
theorem Tr.int_inv {H : Hp} {v : V} {i : Int} (h : Tr H v (.int i)) : v = .int i := by
  cases h
  rfl
theorem TrAll.ints {H : Hp} : ∀ {vs : List V} {ns : List Int}, TrAll H vs (ns.map PyData.int) → vs = ns.map V.int
  | _, [], h => by cases h; rfl
  | _, n :: r, h => by
    cases h with
    | cons a b => rw [a.int_inv, TrAll.ints b]; rfl
/-- a tuple of ints -/
def intsT (ns : List Int) : PyData := .tuple (ns.map PyData.int)
theorem trIntsT {H : Hp} {a : Addr} {ns : List Int} (h : H a = some (.tup (ns.map V.int))) : Tr H (.ref a) (intsT ns) := .tup h (trInts ns)
theorem Tr.intsInv {H : Hp} {v : V} {ns : List Int} (h : Tr H v (intsT ns)) : ∃ a, v = .ref a ∧ H a = some (.tup (ns.map V.int)) := by
  obtain ⟨a, xs, rfl, ea, r⟩ := Tr.inv h
  rw [r.ints] at ea
  exact ⟨a, rfl, ea⟩
/-- a row -/
def rowD (ps : List (Int × Int)) : PyData := .tuple (ps.map fun p => .tuple [.int p.1, .int p.2])
theorem fit_row (ps : List (Int × Int)) : fit 2 (rowD ps) := fit.tup (fitAll_iff.mpr fun d hd => by
  obtain ⟨p, _, rfl⟩ := List.mem_map.mp hd
  exact .tup (.cons (.int _) (.cons (.int _) .nil)))
theorem row_at {H : Hp} {xs : List V} {ps : List (Int × Int)} (h : TrAll H xs (ps.map fun p => .tuple [.int p.1, .int p.2])) {i : Nat} {x : V} (e : xs[i]? = some x) :
    ∃ p q, ps[i]? = some p ∧ x = .ref q ∧ H q = some (.tup [.int p.1, .int p.2]) := by
  have hl := h.len
  rw [List.length_map] at hl
  have hi : i < ps.length := by
    have := (List.getElem?_eq_some_iff.mp e).1
    omega
  obtain ⟨v, e2, r⟩ := h.get (i := i) (d := .tuple [.int ps[i].1, .int ps[i].2]) (by rw [List.getElem?_map, List.getElem?_eq_getElem hi]; rfl)
  rw [e] at e2
  cases e2
  obtain ⟨q, x1, y1, rfl, eq, r1, r2⟩ := r.inv2
  rw [r1.int_inv, r2.int_inv] at eq
  exact ⟨ps[i], q, List.getElem?_eq_getElem hi, rfl, eq⟩
/-- a row's numbers -/
structure RowOk (ps : List (Int × Int)) : Prop where
  ne : ps ≠ []
  rg : ∀ p ∈ ps, 0 ≤ p.1 ∧ p.1 ≤ 3 ∧ 0 ≤ p.2 ∧ p.2 ≤ 999999999
  up : (ps.map (·.1)).Pairwise (· < ·)
theorem pw_get {l : List Int} (h : l.Pairwise (· < ·)) {i j : Nat} {a b : Int} (hij : i < j) (ha : l[i]? = some a) (hb : l[j]? = some b) : a < b := by
  obtain ⟨h1, e1⟩ := List.getElem?_eq_some_iff.mp ha
  obtain ⟨h2, e2⟩ := List.getElem?_eq_some_iff.mp hb
  have := List.pairwise_iff_getElem.mp h i j h1 h2 hij
  rw [e1, e2] at this
  exact this
end Wl

set_option maxRecDepth 100000
/-! The source of draws: a dict of four entries, two lists. -/
namespace Wl
open PySem PySem.Spec PyProof.Rows L2
def drawK (l c : Addr) (r t : Int) : List (Key × V) := [(.inr "large", .ref l), (.inr "cells", .ref c), (.inr "rest", .int r), (.inr "turn", .int t)]
theorem s1 : ¬ (Sum.inr ("large" : Str) : Key) = (Sum.inr ("cells" : Str) : Key) := by decide +kernel
theorem s2 : ¬ (Sum.inr ("large" : Str) : Key) = (Sum.inr ("rest" : Str) : Key) := by decide +kernel
theorem s3 : ¬ (Sum.inr ("large" : Str) : Key) = (Sum.inr ("turn" : Str) : Key) := by decide +kernel
theorem s4 : ¬ (Sum.inr ("cells" : Str) : Key) = (Sum.inr ("rest" : Str) : Key) := by decide +kernel
theorem s5 : ¬ (Sum.inr ("cells" : Str) : Key) = (Sum.inr ("turn" : Str) : Key) := by decide +kernel
theorem s6 : ¬ (Sum.inr ("rest" : Str) : Key) = (Sum.inr ("turn" : Str) : Key) := by decide +kernel
theorem s6' : ¬ (Sum.inr ("turn" : Str) : Key) = (Sum.inr ("rest" : Str) : Key) := by decide +kernel
section
variable {l c : Addr} {r t r' t' : Int}
theorem dk_large : valV (drawK l c r t) (.inr "large" : Key) = some (.ref l) := valV_pos (p := (_, _)) rfl
theorem dk_cells : valV (drawK l c r t) (.inr "cells" : Key) = some (.ref c) := (valV_neg (p := (_, _)) s1).trans (valV_pos (p := (_, _)) rfl)
theorem dk_rest : valV (drawK l c r t) (.inr "rest" : Key) = some (.int r) := (valV_neg (p := (_, _)) s2).trans ((valV_neg (p := (_, _)) s4).trans (valV_pos (p := (_, _)) rfl))
theorem dk_turn : valV (drawK l c r t) (.inr "turn" : Key) = some (.int t) := (valV_neg (p := (_, _)) s3).trans ((valV_neg (p := (_, _)) s5).trans ((valV_neg (p := (_, _)) s6).trans (valV_pos (p := (_, _)) rfl)))
theorem dk_putRest : putK (drawK l c r t) (.inr "rest" : Key) (.int r') = drawK l c r' t := by
  unfold drawK
  simp [putK]
  exact ⟨fun z => s2 (congrArg Sum.inr z), fun z => s4 (congrArg Sum.inr z), fun z => absurd (congrArg (Sum.inr (α := Int)) z) s6'⟩
theorem dk_putTurn : putK (drawK l c r t) (.inr "turn" : Key) (.int t') = drawK l c r t' := by
  unfold drawK
  simp [putK]
  exact ⟨fun z => s3 (congrArg Sum.inr z), fun z => s5 (congrArg Sum.inr z), fun z => absurd (congrArg (Sum.inr (α := Int)) z) s6⟩
theorem dk_merge : mergeK [] (drawK l c r t) = drawK l c r t := by rfl
end
/-- a source of draws at d, its lists at l and c -/
structure Draw (H : Hp) (d l c : Addr) : Prop where
  ex : ∃ (ls cs : List Int) (r t : Int), H d = some (.dK (drawK l c r t)) ∧ H l = some (.lst (ls.map V.int)) ∧ H c = some (.lst (cs.map V.int))
  ne : c ≠ l
/-- all but some addresses stays -/
def Keep (F : Addr → Prop) (H H' : Hp) : Prop := ∀ b o, H b = some o → ¬ F b → H' b = some o
theorem Keep.rfl' {F : Addr → Prop} {H : Hp} : Keep F H H := fun _ _ e _ => e
theorem Keep.trans {F : Addr → Prop} {H H1 H2 : Hp} (a : Keep F H H1) (b : Keep F H1 H2) : Keep F H H2 := fun c o e n => b c o (a c o e n) n
theorem Keep.of {F : Addr → Prop} {H H' : Hp} (s : Same H H') : Keep F H H' := fun b o e _ => s b o e
theorem Keep.new {F : Addr → Prop} {H H1 : Hp} {p : Addr} {o : HO} (k : Keep F H H1) (h : H1 p = none) : Keep F H (upd H1 p o) := k.trans (.of (same_new h))
theorem Keep.put {F : Addr → Prop} {H H1 : Hp} {p : Addr} {o : HO} (k : Keep F H H1) (h : F p) : Keep F H (upd H1 p o) := fun b u e n => by
  rw [upd_ne (fun z => n (by rw [z]; exact h))]
  exact k b u e n
/-- what was not there at first may change -/
theorem Keep.put' {F : Addr → Prop} {H H1 : Hp} {p : Addr} {o : HO} (k : Keep F H H1) (h : H p = none) : Keep F H (upd H1 p o) := fun b u e n => by
  rw [upd_ne (ne_of_none e h)]
  exact k b u e n
theorem Keep.mono {F G : Addr → Prop} {H H1 : Hp} (k : Keep F H H1) (h : ∀ b o, H b = some o → F b → G b) : Keep G H H1 := fun b o e n => k b o e fun z => n (h b o e z)
theorem Keep.free {F : Addr → Prop} {H H1 : Hp} (k : Keep F H H1) {p : Addr} (h : H1 p = none) (n : ¬ F p) : H p = none := by
  cases e : H p with
  | none => rfl
  | some o =>
    have := k p o e n
    rw [h] at this
    cases this
abbrev dF (d l : Addr) : Addr → Prop := fun b => b = d ∨ b = l
theorem Draw.keep {H H' : Hp} {d l c : Addr} {F : Addr → Prop} (D : Draw H d l c) (k : Keep F H H') (h1 : ¬ F d) (h2 : ¬ F l) (h3 : ¬ F c) : Draw H' d l c := by
  obtain ⟨⟨ls, cs, r, t, e1, e2, e3⟩, ne⟩ := D
  exact ⟨⟨ls, cs, r, t, k _ _ e1 h1, k _ _ e2 h2, k _ _ e3 h3⟩, ne⟩
theorem Draw.same {H H' : Hp} {d l c : Addr} (D : Draw H d l c) (s : Same H H') : Draw H' d l c := D.keep (F := fun _ => False) (.of s) id id id
theorem Draw.tups {H H' : Hp} {d l c : Addr} (D : Draw H d l c) (k : Keep (dF d l) H H') : Tups H H' := by
  obtain ⟨⟨ls, cs, r, t, e1, e2, e3⟩, ne⟩ := D
  intro b xs e
  refine k b _ e fun h => ?_
  rcases h with rfl | rfl
  · rw [e1] at e; cases e
  · rw [e2] at e; cases e
theorem Draw.d_some {H : Hp} {d l c : Addr} (D : Draw H d l c) : ∃ kvs, H d = some (.dK kvs) := by
  obtain ⟨⟨ls, cs, r, t, e1, _⟩, _⟩ := D
  exact ⟨_, e1⟩
theorem Draw.l_some {H : Hp} {d l c : Addr} (D : Draw H d l c) : ∃ xs, H l = some (.lst xs) := by
  obtain ⟨⟨ls, cs, r, t, e1, e2, _⟩, _⟩ := D
  exact ⟨_, e2⟩
/-- what is new is none of a source's -/
theorem Draw.off {H : Hp} {d l c p : Addr} (D : Draw H d l c) (h : H p = none) : ¬ dF d l p := fun z => by
  obtain ⟨⟨ls, cs, r, t, e1, e2, e3⟩, ne⟩ := D
  rcases z with rfl | rfl
  · rw [e1] at h; cases h
  · rw [e2] at h; cases h
theorem Draw.offT {H : Hp} {d l c p : Addr} {xs : List V} (D : Draw H d l c) (h : H p = some (.tup xs)) : ¬ dF d l p := fun z => by
  obtain ⟨⟨ls, cs, r, t, e1, e2, e3⟩, ne⟩ := D
  rcases z with rfl | rfl
  · rw [e1] at h; cases h
  · rw [e2] at h; cases h
end Wl
namespace Wl
open PySem PySem.Spec PyProof.Rows L2
theorem dget {H : Hp} {a : Addr} {kvs : List (Key × V)} {k : Key} {v : V} (h : H a = some (.dK kvs)) (e : valV kvs k = some v) : DGet H a (kV k) (some v) := .inl ⟨kvs, k, .inl h, rfl, e.symm⟩
theorem dput {H : Hp} {a : Addr} {kvs kvs' : List (Key × V)} {k : Key} {v : V} (h : H a = some (.dK kvs)) (hl : kvs.length < sizeLine) (e : putK kvs k v = kvs') : DPut H a (kV k) v (upd H a (.dK kvs')) := by
  rw [← e]
  exact DPut.k h hl
section
variable {H : Hp} {d l c : Addr} {r t r' t' : Int} (h : H d = some (.dK (drawK l c r t)))
include h
theorem g_large : DGet H d (.str "large") (some (.ref l)) := dget h dk_large
theorem g_cells : DGet H d (.str "cells") (some (.ref c)) := dget h dk_cells
theorem g_rest : DGet H d (.str "rest") (some (.int r)) := dget h dk_rest
theorem g_turn : DGet H d (.str "turn") (some (.int t)) := dget h dk_turn
theorem p_rest : DPut H d (.str "rest") (.int r') (upd H d (.dK (drawK l c r' t))) := dput h (by show 4 < sizeLine; decide) dk_putRest
theorem p_turn : DPut H d (.str "turn") (.int t') (upd H d (.dK (drawK l c r t'))) := dput h (by show 4 < sizeLine; decide) dk_putTurn
end
/-- the four parts, for building and taking apart -/
theorem Draw.mk' {H : Hp} {d l c : Addr} {ls cs : List Int} {r t : Int} (e1 : H d = some (.dK (drawK l c r t))) (e2 : H l = some (.lst (ls.map V.int))) (e3 : H c = some (.lst (cs.map V.int))) (ne : c ≠ l) : Draw H d l c :=
  ⟨⟨ls, cs, r, t, e1, e2, e3⟩, ne⟩
/-- what is new later on is none of the source's -/
theorem Draw.off' {H H1 : Hp} {d l c p : Addr} (D : Draw H d l c) (D1 : Draw H1 d l c) (h : H1 p = none) : ¬ dF d l p := D1.off h
end Wl

set_option maxRecDepth 100000
namespace Wl
open PySem PySem.Spec PyProof.Rows L2
def topS (i : Nat) : Stmt := PySem.Challenge.pw_waitless_k20_whole_steps_of_a_round_exac.main.body.getD i (.Pass ⟨0, 0, 0, 0⟩)
abbrev s_is_number : Stmt := topS 10
abbrev s_is_between : Stmt := topS 11
abbrev s_is_row : Stmt := topS 12
abbrev s_need_row : Stmt := topS 13
abbrev s_hands_by : Stmt := topS 14
abbrev s_is_hand : Stmt := topS 16
abbrev s_need_hand : Stmt := topS 17
abbrev s_need_rounds : Stmt := topS 19
abbrev s_need_one_of : Stmt := topS 21
abbrev s_need_moment : Stmt := topS 24
abbrev s_Cells___init__ : Stmt := inClass (topS 25) 0
abbrev s_Cells__write : Stmt := inClass (topS 25) 1
abbrev s_Cells__read : Stmt := inClass (topS 25) 2
abbrev s_Cells_step : Stmt := inClass (topS 25) 3
abbrev s_Cells_view : Stmt := inClass (topS 25) 5
abbrev s_Cells_ended : Stmt := inClass (topS 25) 6
abbrev s_Cells_steps : Stmt := inClass (topS 25) 7
abbrev s_Cells_found : Stmt := inClass (topS 25) 9
abbrev s__law_begun : Stmt := topS 27
abbrev s__law_blend : Stmt := topS 28
abbrev s__law_take : Stmt := topS 29
abbrev s__law_pick : Stmt := topS 30
abbrev s__law_shuffled : Stmt := topS 31
abbrev s__law_hands : Stmt := topS 32
abbrev s__law_row : Stmt := topS 33
abbrev s__law_bursts : Stmt := topS 34
abbrev s__law_counted : Stmt := topS 35
abbrev s_law : Stmt := topS 36
theorem sc_is_number : FnScope ["thing"] ["thing"] (defScope s_is_number) := ⟨rfl, rfl, rfl, by decide +kernel, rfl, by decide +kernel, by decide +kernel⟩
theorem sc_is_between : FnScope ["thing", "low", "high"] ["thing", "low", "high"] (defScope s_is_between) := ⟨rfl, rfl, rfl, by decide +kernel, rfl, by decide +kernel, by decide +kernel⟩
theorem sc_is_row : FnScope ["thing", "last", "pair"] ["thing"] (defScope s_is_row) := ⟨rfl, rfl, rfl, by decide +kernel, rfl, by decide +kernel, by decide +kernel⟩
theorem sc_need_row : FnScope ["thing"] ["thing"] (defScope s_need_row) := ⟨rfl, rfl, rfl, by decide +kernel, rfl, by decide +kernel, by decide +kernel⟩
theorem sc_hands_by : FnScope ["row", "pair"] ["row"] (defScope s_hands_by) := ⟨rfl, rfl, rfl, by decide +kernel, rfl, by decide +kernel, by decide +kernel⟩
theorem sc_is_hand : FnScope ["thing"] ["thing"] (defScope s_is_hand) := ⟨rfl, rfl, rfl, by decide +kernel, rfl, by decide +kernel, by decide +kernel⟩
theorem sc_need_hand : FnScope ["thing"] ["thing"] (defScope s_need_hand) := ⟨rfl, rfl, rfl, by decide +kernel, rfl, by decide +kernel, by decide +kernel⟩
theorem sc_need_rounds : FnScope ["thing", "most"] ["thing", "most"] (defScope s_need_rounds) := ⟨rfl, rfl, rfl, by decide +kernel, rfl, by decide +kernel, by decide +kernel⟩
theorem sc_need_one_of : FnScope ["hands", "hand"] ["hands", "hand"] (defScope s_need_one_of) := ⟨rfl, rfl, rfl, by decide +kernel, rfl, by decide +kernel, by decide +kernel⟩
theorem sc_need_moment : FnScope ["thing", "least", "most"] ["thing", "least", "most"] (defScope s_need_moment) := ⟨rfl, rfl, rfl, by decide +kernel, rfl, by decide +kernel, by decide +kernel⟩
theorem sc_Cells___init__ : FnScope ["self", "row", "rounds", "hand", "value", "turn"] ["self", "row", "rounds"] (defScope s_Cells___init__) := ⟨rfl, rfl, rfl, by decide +kernel, rfl, by decide +kernel, by decide +kernel⟩
theorem sc_Cells__write : FnScope ["self", "hand", "turn", "level"] ["self", "hand", "turn"] (defScope s_Cells__write) := ⟨rfl, rfl, rfl, by decide +kernel, rfl, by decide +kernel, by decide +kernel⟩
theorem sc_Cells__read : FnScope ["self", "hand", "turn", "hands", "whose", "found", "level", "pairs", "other", "pair", "counted"] ["self", "hand", "turn"] (defScope s_Cells__read) := ⟨rfl, rfl, rfl, by decide +kernel, rfl, by decide +kernel, by decide +kernel⟩
theorem sc_Cells_step : FnScope ["self", "hand", "turn"] ["self", "hand"] (defScope s_Cells_step) := ⟨rfl, rfl, rfl, by decide +kernel, rfl, by decide +kernel, by decide +kernel⟩
theorem sc_Cells_view : FnScope ["self", "hand", "moment"] ["self", "hand", "moment"] (defScope s_Cells_view) := ⟨rfl, rfl, rfl, by decide +kernel, rfl, by decide +kernel, by decide +kernel⟩
theorem sc_Cells_ended : FnScope ["self", "hand"] ["self", "hand"] (defScope s_Cells_ended) := ⟨rfl, rfl, rfl, by decide +kernel, rfl, by decide +kernel, by decide +kernel⟩
theorem sc_Cells_steps : FnScope ["self", "hand"] ["self", "hand"] (defScope s_Cells_steps) := ⟨rfl, rfl, rfl, by decide +kernel, rfl, by decide +kernel, by decide +kernel⟩
theorem sc_Cells_found : FnScope ["self", "hand"] ["self", "hand"] (defScope s_Cells_found) := ⟨rfl, rfl, rfl, by decide +kernel, rfl, by decide +kernel, by decide +kernel⟩
theorem sc__law_begun : FnScope ["script", "large", "cell"] ["script"] (defScope s__law_begun) := ⟨rfl, rfl, rfl, by decide +kernel, rfl, by decide +kernel, by decide +kernel⟩
theorem sc__law_blend : FnScope ["draw", "turn", "found", "prime", "stirred", "cell"] ["draw"] (defScope s__law_blend) := ⟨rfl, rfl, rfl, by decide +kernel, rfl, by decide +kernel, by decide +kernel⟩
theorem sc__law_take : FnScope ["draw", "size", "found"] ["draw", "size"] (defScope s__law_take) := ⟨rfl, rfl, rfl, by decide +kernel, rfl, by decide +kernel, by decide +kernel⟩
theorem sc__law_pick : FnScope ["draw", "some"] ["draw", "some"] (defScope s__law_pick) := ⟨rfl, rfl, rfl, by decide +kernel, rfl, by decide +kernel, by decide +kernel⟩
theorem sc__law_shuffled : FnScope ["draw", "some", "left", "found"] ["draw", "some"] (defScope s__law_shuffled) := ⟨rfl, rfl, rfl, by decide +kernel, rfl, by decide +kernel, by decide +kernel⟩
theorem sc__law_hands : FnScope ["draw", "most", "many", "k"] ["draw", "most"] (defScope s__law_hands) := ⟨rfl, rfl, rfl, by decide +kernel, rfl, by decide +kernel, by decide +kernel⟩
theorem sc__law_row : FnScope ["draw", "hands", "menu", "hand"] ["draw", "hands"] (defScope s__law_row) := ⟨rfl, rfl, rfl, by decide +kernel, rfl, by decide +kernel, by decide +kernel⟩
theorem sc__law_bursts : FnScope ["draw", "hands", "many", "found", "size", "lap", "hand", "most"] ["draw", "hands", "many"] (defScope s__law_bursts) := ⟨rfl, rfl, rfl, by decide +kernel, rfl, by decide +kernel, by decide +kernel⟩
theorem sc__law_counted : FnScope ["cells", "hand", "words", "number", "many", "moment", "some", "told", "size"] ["cells", "hand", "words", "number"] (defScope s__law_counted) := ⟨rfl, rfl, rfl, by decide +kernel, rfl, by decide +kernel, by decide +kernel⟩
theorem sc_law : FnScope ["script", "draw", "hands", "many", "number", "cells", "words", "hand", "going", "stop", "others", "lap", "busy", "told", "some"] ["script"] (defScope s_law) := ⟨rfl, rfl, rfl, by decide +kernel, rfl, by decide +kernel, by decide +kernel⟩
structure DefOf (K : PySem.W.Frag) (mg : Str → Option Value) (x qual : Str) (st : Stmt) (ps : List Str) where
  a : Addr
  d : FuncData
  F : Fun K x qual st a d
  b : Binds K d ps []
  g : mg x = some (.ref a)
structure MetOf (K : PySem.W.Frag) (C : Addr) (x qual : Str) (st : Stmt) (ps : List Str) where
  a : Addr
  d : FuncData
  F : Fun K x qual st a d
  b : Binds K d ps []
  m : Meth K C x a
section
variable {K : PySem.W.Frag} {mg : Str → Option Value} {x qual : Str} {st : Stmt} {ps : List Str} {f C : Addr} {oc : Value} {od an : Option Addr} {osl : Array (Option Value)} {kV doc pm cdv ct : Value}
theorem noAttr_mk (h : PySem.W.findIn K (.ref C) x = some none) : NoAttr K C x := h
def defOf_mk {h : Heap} (X : K.In h) (G : h.Ns mainGlobals mg) (a : PySem.W.nsIn K mainGlobals x = some (some (.ref f)))
    (l : K.lookup f = some ⟨oc, od, .func (PySem.W.fnOf x qual (defArgs st) (defBody st) (defScope st) .none kV doc pm an cdv ct), osl⟩) (c : PySem.W.codeIn K cdv qual = true) (k : PySem.W.keepIn K (.ref f) = true)
    (hb : ∀ (kV doc pm : Value) (an : Option Addr) (cdv ct : Value) (us : List Value), us.length = ps.length → bindArgs (PySem.W.fnOf x qual (defArgs st) (defBody st) (defScope st) .none kV doc pm an cdv ct) ⟨us, []⟩ = pure (ps.zip us)) :
    DefOf K mg x qual st ps := ⟨f, _, fun_mk l c k, (fun_mk (st := st) l c k).binds hb, PySem.W.mg_of X G a⟩
def metOf_mk (a : PySem.W.findIn K (.ref C) x = some (some (.ref f))) (i : PySem.W.isFn K (.ref f) = true)
    (l : K.lookup f = some ⟨oc, od, .func (PySem.W.fnOf x qual (defArgs st) (defBody st) (defScope st) .none kV doc pm an cdv ct), osl⟩) (c : PySem.W.codeIn K cdv qual = true) (k : PySem.W.keepIn K (.ref f) = true)
    (hb : ∀ (kV doc pm : Value) (an : Option Addr) (cdv ct : Value) (us : List Value), us.length = ps.length → bindArgs (PySem.W.fnOf x qual (defArgs st) (defBody st) (defScope st) .none kV doc pm an cdv ct) ⟨us, []⟩ = pure (ps.zip us)) :
    MetOf K C x qual st ps := ⟨f, _, fun_mk l c k, (fun_mk (st := st) l c k).binds hb, ⟨a, i, k⟩⟩
end
/-- what the top has left -/
structure Tx (K : PySem.W.Frag) (mg : Str → Option Value) where
  C_Cells : Addr
  c_Cells : Cls K C_Cells
  g_Cells : mg "Cells" = some (.ref C_Cells)
  f_is_number : DefOf K mg "is_number" "is_number" s_is_number ["thing"]
  f_is_between : DefOf K mg "is_between" "is_between" s_is_between ["thing", "low", "high"]
  f_is_row : DefOf K mg "is_row" "is_row" s_is_row ["thing"]
  f_need_row : DefOf K mg "need_row" "need_row" s_need_row ["thing"]
  f_hands_by : DefOf K mg "hands_by" "hands_by" s_hands_by ["row"]
  f_is_hand : DefOf K mg "is_hand" "is_hand" s_is_hand ["thing"]
  f_need_hand : DefOf K mg "need_hand" "need_hand" s_need_hand ["thing"]
  f_need_rounds : DefOf K mg "need_rounds" "need_rounds" s_need_rounds ["thing", "most"]
  f_need_one_of : DefOf K mg "need_one_of" "need_one_of" s_need_one_of ["hands", "hand"]
  f_need_moment : DefOf K mg "need_moment" "need_moment" s_need_moment ["thing", "least", "most"]
  f_Cells___init__ : MetOf K C_Cells "__init__" "Cells.__init__" s_Cells___init__ ["self", "row", "rounds"]
  f_Cells__write : MetOf K C_Cells "_write" "Cells._write" s_Cells__write ["self", "hand", "turn"]
  f_Cells__read : MetOf K C_Cells "_read" "Cells._read" s_Cells__read ["self", "hand", "turn"]
  f_Cells_step : MetOf K C_Cells "step" "Cells.step" s_Cells_step ["self", "hand"]
  f_Cells_view : MetOf K C_Cells "view" "Cells.view" s_Cells_view ["self", "hand", "moment"]
  f_Cells_ended : MetOf K C_Cells "ended" "Cells.ended" s_Cells_ended ["self", "hand"]
  f_Cells_steps : MetOf K C_Cells "steps" "Cells.steps" s_Cells_steps ["self", "hand"]
  f_Cells_found : MetOf K C_Cells "found" "Cells.found" s_Cells_found ["self", "hand"]
  f__law_begun : DefOf K mg "_law_begun" "_law_begun" s__law_begun ["script"]
  f__law_blend : DefOf K mg "_law_blend" "_law_blend" s__law_blend ["draw"]
  f__law_take : DefOf K mg "_law_take" "_law_take" s__law_take ["draw", "size"]
  f__law_pick : DefOf K mg "_law_pick" "_law_pick" s__law_pick ["draw", "some"]
  f__law_shuffled : DefOf K mg "_law_shuffled" "_law_shuffled" s__law_shuffled ["draw", "some"]
  f__law_hands : DefOf K mg "_law_hands" "_law_hands" s__law_hands ["draw", "most"]
  f__law_row : DefOf K mg "_law_row" "_law_row" s__law_row ["draw", "hands"]
  f__law_bursts : DefOf K mg "_law_bursts" "_law_bursts" s__law_bursts ["draw", "hands", "many"]
  f__law_counted : DefOf K mg "_law_counted" "_law_counted" s__law_counted ["cells", "hand", "words", "number"]
  f_law : DefOf K mg "law" "law" s_law ["script"]
  mkf_Cells : PySem.W.makesIn K C_Cells = true ∧ PySem.W.keepIn K (.ref C_Cells) = true
  na_Cells__views : NoAttr K C_Cells "_views"
  na_Cells__cells : NoAttr K C_Cells "_cells"
  na_Cells__next : NoAttr K C_Cells "_next"
  na_Cells__found : NoAttr K C_Cells "_found"
  na_Cells__writing : NoAttr K C_Cells "_writing"
  na_Cells__done : NoAttr K C_Cells "_done"
  na_Cells_row : NoAttr K C_Cells "row"
  na_Cells_rounds : NoAttr K C_Cells "rounds"
  na_Cells_many : NoAttr K C_Cells "many"
  n_len : mg "len" = none
  n_isinstance : mg "isinstance" = none
  n_abs : mg "abs" = none
  n_int : mg "int" = none
  n_bool : mg "bool" = none
  n_list : mg "list" = none
  n_tuple : mg "tuple" = none
  n_sorted : mg "sorted" = none
  n_range : mg "range" = none
  n_zip : mg "zip" = none
  n_ValueError : mg "ValueError" = none
  g_MOST_HANDS : ∃ u, mg "MOST_HANDS" = some u ∧ RelV (.int 4) u
  g_MOST_VALUE : ∃ u, mg "MOST_VALUE" = some u ∧ RelV (.int 999999999) u
  g_MOST_ROUNDS : ∃ u, mg "MOST_ROUNDS" = some u ∧ RelV (.int 6) u
theorem Tx.mk_Cells {K : PySem.W.Frag} {mg : Str → Option Value} (T : Tx K mg) : Mk K T.C_Cells T.f_Cells___init__.a := ⟨T.mkf_Cells.1, T.f_Cells___init__.m.at_, T.f_Cells___init__.m.fn, T.mkf_Cells.2⟩
end Wl


set_option maxRecDepth 100000
namespace Wl
open PySem PySem.Spec PyProof.Rows L2
section
variable {P : Program} {w : World} {K : PySem.W.Frag} {mg : Str → Option Value} {base : Heap}
def spIsNumber (K : PySem.W.Frag) : Sp := fun vs H Q _ => ∃ (x : V) (t : String) (b1 b2 : Bool), vs = [x] ∧ TyX K H x (.type t) ∧ kitB t "int" = some b1 ∧ kitB t "bool" = some b2 ∧ Q (.bl (b1 && !b2)) H
theorem ok_is_number (T : Tx K mg) : FnOk P w K mg base CX0 1 T.f_is_number.a T.f_is_number.d ["thing"] (spIsNumber K) := by
  refine T.f_is_number.F.ok sc_is_number (fun vs H Q E h => ?_) (fun cdv A outer s H vs Q E hr h => ?_)
  · obtain ⟨x, t, b1, b2, rfl, _⟩ := h
    rfl
  · obtain ⟨x, t, b1, b2, rfl, ty, k1, k2, q⟩ := h
    refine ⟨_, (pss_one (ps_ret (pe_and (pe_callB (k_isi (K := K) rfl) (by rfl) T.n_isinstance (by decide +kernel) (pa_cons (pv 0) (pa_cons (pe_bltn (v := .ty "int") (by rfl) T.n_int boot_int rfl) pa_nil))) (pe_one (pe_not (pe_callB (k_isi (K := K) rfl) (by rfl) T.n_isinstance (by decide +kernel) (pa_cons (pv 0) (pa_cons (pe_bltn (v := .ty "bool") (by rfl) T.n_bool boot_bool rfl) pa_nil)))))))), ?_⟩
    refine ⟨x, rfl, x, _, _, _, b1, rfl, .ty "int", ty, kit_ty k1, b1, rfl, ?_⟩
    cases b1 with
    | false => exact iteF q
    | true =>
      refine iteT ⟨x, rfl, x, _, _, _, b2, rfl, .ty "bool", ty, kit_ty k2, b2, rfl, ?_⟩
      exact q
def spIsNumberI : Sp := fun vs H Q _ => ∃ (i : Int), vs = [.int i] ∧ Q (.bl true) H
theorem ok_is_number_i (T : Tx K mg) : FnOk P w K mg base CX0 1 T.f_is_number.a T.f_is_number.d ["thing"] spIsNumberI :=
  (ok_is_number T).imp fun vs H Q E h => by
    obtain ⟨i, rfl, q⟩ := h
    exact ⟨.int i, "int", true, false, rfl, .base (.int i), by decide +kernel, by decide +kernel, q⟩
/-- ints alone -/
def spIsBetween : Sp := fun vs H Q _ => ∃ (i lo hi : Int), vs = [.int i, .int lo, .int hi] ∧ Q (.bl (decide (lo ≤ i) && decide (i ≤ hi))) H
theorem ok_is_between (T : Tx K mg) : FnOk P w K mg base CX0 2 T.f_is_between.a T.f_is_between.d ["thing", "low", "high"] spIsBetween := by
  refine T.f_is_between.F.ok sc_is_between (fun vs H Q E h => ?_) (fun cdv A outer s H vs Q E hr h => ?_)
  · obtain ⟨i, lo, hi, rfl, _⟩ := h
    rfl
  · obtain ⟨i, lo, hi, rfl, q⟩ := h
    refine ⟨_, (pss_one (ps_ret (pe_and (pe_call (ok_is_number_i T) (hr.mono (by decide)) (by rfl) T.f_is_number.g T.f_is_number.F.kp T.f_is_number.b .nil pass0 (pa_cons (pv 0) pa_nil)) (pe_one (pe_chain op_le op_le (pv 1) (pv 0) (pv 2)))))), ?_⟩
    refine ⟨_, rfl, _, rfl, true, rfl, iteT ?_⟩
    refine ⟨_, rfl, _, rfl, lo, i, rfl, rfl, decide (lo ≤ i), rfl, ?_⟩
    cases e : decide (lo ≤ i) with
    | false =>
      rw [e] at q
      exact iteF q
    | true =>
      rw [e] at q
      exact iteT ⟨_, rfl, i, hi, rfl, rfl, q⟩
def spIsHand : Sp := fun vs H Q _ => ∃ (i : Int), vs = [.int i] ∧ Q (.bl (decide (0 ≤ i) && decide (i ≤ 3))) H
theorem ok_is_hand (T : Tx K mg) : FnOk P w K mg base CX0 2 T.f_is_hand.a T.f_is_hand.d ["thing"] spIsHand := by
  refine T.f_is_hand.F.ok sc_is_hand (fun vs H Q E h => ?_) (fun cdv A outer s H vs Q E hr h => ?_)
  · obtain ⟨i, rfl, _⟩ := h
    rfl
  · obtain ⟨i, rfl, q⟩ := h
    refine ⟨_, (pss_one (ps_ret (pe_and (pe_call (ok_is_number_i T) (hr.mono (by decide)) (by rfl) T.f_is_number.g T.f_is_number.F.kp T.f_is_number.b .nil pass0 (pa_cons (pv 0) pa_nil)) (pe_one (pe_chain op_le op_le pe_int (pv 0) pe_int))))), ?_⟩
    refine ⟨_, rfl, _, rfl, true, rfl, iteT ?_⟩
    refine ⟨_, rfl, 0, i, rfl, rfl, decide (0 ≤ i), rfl, ?_⟩
    cases e : decide (0 ≤ i) with
    | false =>
      rw [e] at q
      exact iteF q
    | true =>
      rw [e] at q
      exact iteT ⟨i, 3, rfl, rfl, q⟩
def spNeedHand : Sp := fun vs H Q _ => ∃ (i : Int), vs = [.int i] ∧ 0 ≤ i ∧ i ≤ 3 ∧ Q .non H
theorem ok_need_hand (T : Tx K mg) : FnOk P w K mg base CX0 3 T.f_need_hand.a T.f_need_hand.d ["thing"] spNeedHand := by
  refine T.f_need_hand.F.ok sc_need_hand (fun vs H Q E h => ?_) (fun cdv A outer s H vs Q E hr h => ?_)
  · obtain ⟨i, rfl, _⟩ := h
    rfl
  · obtain ⟨i, rfl, h0, h3, q⟩ := h
    refine ⟨_, (pss_one (ps_if (pt_not (pt_val (pe_call (ok_is_hand T) (hr.mono (by decide)) (by rfl) T.f_is_hand.g T.f_is_hand.F.kp T.f_is_hand.b .nil pass0 (pa_cons (pv 0) pa_nil)))) (pss_one ps_never) pss_nil)), ?_⟩
    refine ⟨_, rfl, i, rfl, true, by rw [decide_eq_true h0, decide_eq_true h3]; rfl, iteF q⟩
def spNeedOneOf (K : PySem.W.Frag) : Sp := fun vs H Q _ => ∃ (a : Addr) (hs : List Int) (i : Int), vs = [.ref a, .int i] ∧ SqT K H a (hs.map V.int) ∧ i ∈ hs ∧ 0 ≤ i ∧ i ≤ 3 ∧ Q .non H
theorem inV_int {i : Int} : ∀ {hs : List Int}, inV (.int i) (hs.map V.int) = decide (i ∈ hs)
  | [] => rfl
  | x :: r => by
    have ih := inV_int (i := i) (hs := r)
    unfold inV at ih ⊢
    rw [List.map_cons, List.any_cons, ih]
    by_cases e : i = x
    · subst e
      simp [eqV]
    · have e' : ¬ x = i := fun z => e z.symm
      simp [eqV, e, e']
theorem flat_ints (hs : List Int) : (hs.map V.int).all flatV = true := by
  rw [List.all_eq_true]
  intro x hx
  obtain ⟨i, _, rfl⟩ := List.mem_map.mp hx
  rfl
theorem ok_need_one_of (T : Tx K mg) : FnOk P w K mg base CX0 4 T.f_need_one_of.a T.f_need_one_of.d ["hands", "hand"] (spNeedOneOf K) := by
  refine T.f_need_one_of.F.ok sc_need_one_of (fun vs H Q E h => ?_) (fun cdv A outer s H vs Q E hr h => ?_)
  · obtain ⟨a, hs, i, rfl, _⟩ := h
    rfl
  · obtain ⟨a, hs, i, rfl, ha, hi, h0, h3, q⟩ := h
    refine ⟨_, (pss_cons (ps_expr (pe_call (ok_need_hand T) (hr.mono (by decide)) (by rfl) T.f_need_hand.g T.f_need_hand.F.kp T.f_need_hand.b .nil pass0 (pa_cons (pv 1) pa_nil)))
      (pss_one (ps_if (pt_cmpR (k_notIn (K := K) rfl) (pv 1) (pv 0) (by rfl)) (pss_one ps_never) pss_nil))), ?_⟩
    refine ⟨_, rfl, i, rfl, h0, h3, ?_⟩
    refine ⟨_, rfl, _, rfl, a, _, rfl, .inr ha, rfl, flat_ints hs, false, ?_, iteF q⟩
    rw [inV_int, decide_eq_true hi]
    rfl
def spNeedMoment : Sp := fun vs H Q _ => ∃ (i lo hi : Int), vs = [.int i, .int lo, .int hi] ∧ lo ≤ i ∧ i ≤ hi ∧ Q .non H
theorem ok_need_moment (T : Tx K mg) : FnOk P w K mg base CX0 3 T.f_need_moment.a T.f_need_moment.d ["thing", "least", "most"] spNeedMoment := by
  refine T.f_need_moment.F.ok sc_need_moment (fun vs H Q E h => ?_) (fun cdv A outer s H vs Q E hr h => ?_)
  · obtain ⟨i, lo, hi, rfl, _⟩ := h
    rfl
  · obtain ⟨i, lo, hi, rfl, h0, h3, q⟩ := h
    refine ⟨_, (pss_one (ps_if (pt_not (pt_val (pe_call (ok_is_between T) (hr.mono (by decide)) (by rfl) T.f_is_between.g T.f_is_between.F.kp T.f_is_between.b .nil pass0 (pa_cons (pv 0) (pa_cons (pv 1) (pa_cons (pv 2) pa_nil)))))) (pss_one ps_never) pss_nil)), ?_⟩
    refine ⟨_, rfl, _, rfl, _, rfl, i, lo, hi, rfl, true, by rw [decide_eq_true h0, decide_eq_true h3]; rfl, iteF q⟩
def spNeedRounds : Sp := fun vs H Q _ => ∃ (i hi : Int), vs = [.int i, .int hi] ∧ 0 ≤ i ∧ i ≤ hi ∧ Q .non H
theorem ok_need_rounds (T : Tx K mg) : FnOk P w K mg base CX0 2 T.f_need_rounds.a T.f_need_rounds.d ["thing", "most"] spNeedRounds := by
  refine T.f_need_rounds.F.ok sc_need_rounds (fun vs H Q E h => ?_) (fun cdv A outer s H vs Q E hr h => ?_)
  · obtain ⟨i, hi, rfl, _⟩ := h
    rfl
  · obtain ⟨i, hi, rfl, h0, h3, q⟩ := h
    refine ⟨_, (pss_one (ps_if (PW.pt (pw_or (pt_not (pt_val (pe_call (ok_is_number_i T) (hr.mono (by decide)) (by rfl) T.f_is_number.g T.f_is_number.F.kp T.f_is_number.b .nil pass0 (pa_cons (pv 0) pa_nil)))) (pw_or1 (pt_not (pt_chain op_le op_le pe_int (pv 0) (pv 1)))))) (pss_one ps_never) pss_nil)), ?_⟩
    refine ⟨_, rfl, _, rfl, true, rfl, iteF ?_⟩
    refine ⟨_, rfl, 0, i, rfl, rfl, true, congrArg V.bl (decide_eq_true h0), iteT ⟨_, rfl, i, hi, rfl, rfl, true, congrArg V.bl (decide_eq_true h3), iteF q⟩⟩
end
end Wl


set_option maxRecDepth 100000
namespace Wl
open PySem PySem.Spec PyProof.Rows L2
section
variable {P : Program} {w : World} {K : PySem.W.Frag} {mg : Str → Option Value} {base : Heap}
def spIsRow (K : PySem.W.Frag) : Sp := fun vs H Q _ => ∃ (v : V) (ps : List (Int × Int)), vs = [v] ∧ Tr H v (rowD ps) ∧ RowOk ps ∧ ∀ H', Same H H' → Q (.bl true) H'
theorem ok_is_row (T : Tx K mg) : FnOk P w K mg base CX0 3 T.f_is_row.a T.f_is_row.d ["thing"] (spIsRow K) := by
  refine T.f_is_row.F.ok sc_is_row (fun vs H Q E h => ?_) (fun cdv A outer s H vs Q E hr h => ?_)
  · obtain ⟨v, ps, rfl, _⟩ := h
    rfl
  · obtain ⟨v, ps, rfl, ht, ok, q⟩ := h
    obtain ⟨a, xs, rfl, ea, r⟩ := id ht.inv
    have hl := r.len
    rw [List.length_map] at hl
    refine ⟨_, (pss_cons (ps_if (PW.pt (pw_or (pt_not (pt_val (pe_callB (k_isi (K := K) rfl) (by rfl) T.n_isinstance (by decide +kernel) (pa_cons (pv 0) (pa_cons (pe_bltn (v := .ty "tuple") (by rfl) T.n_tuple boot_tuple rfl) pa_nil))))) (pw_or1 (pt_cmpR (k_eqD (K := K) rfl hr.units) (pv 0) (pe_tup pa_nil) (nomark _))))) (pss_one (ps_ret pe_bl)) pss_nil)
      (pss_cons (ps_set (i := 1) sc_is_row.nd rfl (.inl rfl) (pe_un un_neg pe_int))
      (pss_cons (ps_for PassesOwn.never rfl (pi_tup (pv 0)) (pg_name (i := 2) sc_is_row.nd rfl (.inl rfl))
        (pss_cons (ps_if (PW.pt (pw_or (pt_not (pt_val (pe_callB (k_isi (K := K) rfl) (by rfl) T.n_isinstance (by decide +kernel) (pa_cons (pv 2) (pa_cons (pe_bltn (v := .ty "tuple") (by rfl) T.n_tuple boot_tuple rfl) pa_nil))))) (pw_or (pt_cmpR op_ne (pe_callB (k_len (K := K) rfl) (by rfl) T.n_len PySem.boot_len (pa_cons (pv 2) pa_nil)) pe_int (nomark _)) (pw_or1 (pt_not (pt_val (pe_call (ok_is_between T) (hr.mono (by decide)) (by rfl) T.f_is_between.g T.f_is_between.F.kp T.f_is_between.b .nil pass0 (pa_cons (pe_ix (kx_tup (K := K) rfl) (pv 2) pe_int (fun _ _ => rfl)) (pa_cons pe_int (pa_cons (pe_cst rfl T.g_MOST_VALUE) pa_nil)))))))))) (pss_one (ps_ret pe_bl)) pss_nil)
        (pss_cons (ps_if (pt_not (pt_val (pe_call (ok_is_between T) (hr.mono (by decide)) (by rfl) T.f_is_between.g T.f_is_between.F.kp T.f_is_between.b .nil pass0 (pa_cons (pe_ix (kx_tup (K := K) rfl) (pv 2) pe_int (fun _ _ => rfl)) (pa_cons (pe_op op_add (pv 1) pe_int) (pa_cons (pe_op op_sub (pe_cst rfl T.g_MOST_HANDS) pe_int) pa_nil)))))) (pss_one (ps_ret pe_bl)) pss_nil)
        (pss_one (ps_set (i := 1) sc_is_row.nd rfl (.inl rfl) (pe_ix (kx_tup (K := K) rfl) (pv 2) pe_int (fun _ _ => rfl)))))))
      (pss_one (ps_ret pe_bl))))), ?_⟩
    -- not isinstance(thing, tuple) or thing == ()
    refine ⟨_, rfl, _, _, _, _, true, rfl, .ty "tuple", .base (.tup ea), kit_ty (by decide +kernel), true, rfl, iteF ?_⟩
    refine ⟨_, rfl, Nat.zero_le _, fun t ht0 => ?_⟩
    have s1 : Same H (upd H t (.tup [])) := same_new ht0
    refine ⟨rowD ps, .tuple [], (ht.mono (same_tups s1)).dp, .tup (SqT.of upd_same) .nil, shaped_of (fit_row ps) (by decide), shapedNilT, false, ?_, iteF ?_⟩
    · have e : ps ≠ [] := ok.ne
      cases ps with
      | nil => exact absurd rfl e
      | cons p r => simp [rowD, PyData.eqv, PyData.eqvAll]
    -- last = -1; the loop
    refine ⟨1, rfl, ?_⟩
    refine ⟨_, rfl, a, rfl, ⟨_, SqT.of (s1 _ _ ea)⟩, for_tup (K := K) (a := a) (xs := xs) (fun i σ H2 => ∃ (l : Int) (y : Option V), σ = [some (.ref a), some (.int l), y] ∧ -1 ≤ l ∧ (∀ j p, ps[j]? = some p → i ≤ j → l < p.1) ∧ Same H H2)
      ⟨-1, none, rfl, Int.le_refl _, fun j p hp _ => ?_, s1⟩ (fun i σ H2 _ ⟨_, _, _, _, _, s2⟩ => SqT.of (s2 _ _ ea)) ?_ ?_⟩
    · have := (ok.rg p (List.mem_of_getElem? hp)).1
      omega
    · rintro i x σ H2 hx ⟨l, y, rfl, hl1, hlt, s2⟩
      obtain ⟨p, q2, hp, rfl, eq⟩ := row_at (r.mono (same_tups s2)) hx
      have hpr := ok.rg p (List.mem_of_getElem? hp)
      have hlp := hlt i p hp (Nat.le_refl _)
      refine ⟨_, rfl, _, _, _, _, true, rfl, .ty "tuple", .base (.tup eq), kit_ty (by decide +kernel), true, rfl, iteF ?_⟩
      refine ⟨_, rfl, q2, _, rfl, .inr (SqT.of eq), rfl, false, rfl, iteF ?_⟩
      refine ⟨_, rfl, q2, _, 1, _, rfl, rfl, SqT.of eq, atI_nat (j := 1) rfl, p.2, 0, 999999999, rfl, true, ?_, iteF ?_⟩
      · rw [decide_eq_true hpr.2.2.1, decide_eq_true hpr.2.2.2]
        rfl
      refine ⟨_, rfl, q2, _, 0, _, rfl, rfl, SqT.of eq, atI_nat (j := 0) rfl, .int l, rfl, l, 1, rfl, rfl, 4, 1, rfl, rfl, p.1, l + 1, 4 - 1, rfl, true, ?_, iteF ?_⟩
      · rw [decide_eq_true (show l + 1 ≤ p.1 by omega), decide_eq_true (show p.1 ≤ 4 - 1 by omega)]
        rfl
      refine ⟨_, rfl, q2, _, 0, _, rfl, rfl, SqT.of eq, atI_nat (j := 0) rfl, p.1, _, rfl, by omega, fun j p' hp' hij => ?_, s2⟩
      exact pw_get ok.up (Nat.lt_of_succ_le hij) (by rw [List.getElem?_map, hp]; rfl) (by rw [List.getElem?_map, hp']; rfl)
    · rintro σ H2 ⟨l, y, rfl, _, _, s2⟩
      exact q H2 s2
def spNeedRow (K : PySem.W.Frag) : Sp := fun vs H Q _ => ∃ (v : V) (ps : List (Int × Int)), vs = [v] ∧ Tr H v (rowD ps) ∧ RowOk ps ∧ ∀ H', Same H H' → Q .non H'
theorem ok_need_row (T : Tx K mg) : FnOk P w K mg base CX0 4 T.f_need_row.a T.f_need_row.d ["thing"] (spNeedRow K) := by
  refine T.f_need_row.F.ok sc_need_row (fun vs H Q E h => ?_) (fun cdv A outer s H vs Q E hr h => ?_)
  · obtain ⟨v, ps, rfl, _⟩ := h
    rfl
  · obtain ⟨v, ps, rfl, ht, ok, q⟩ := h
    refine ⟨_, (pss_one (ps_if (pt_not (pt_val (pe_call (ok_is_row T) (hr.mono (by decide)) (by rfl) T.f_is_row.g T.f_is_row.F.kp T.f_is_row.b .nil pass0 (pa_cons (pv 0) pa_nil)))) (pss_one ps_never) pss_nil)), ?_⟩
    exact ⟨_, rfl, v, ps, rfl, ht, ok, fun H' s' => ⟨true, rfl, iteF (q H' s')⟩⟩
def spHandsBy (K : PySem.W.Frag) : Sp := fun vs H Q _ => ∃ (v : V) (ps : List (Int × Int)), vs = [v] ∧ Tr H v (rowD ps) ∧ ps.length ≤ 1000 ∧ ∀ H' a, Same H H' → H a = none → H' a = some (.tup ((ps.map (·.1)).map V.int)) → Q (.ref a) H'
theorem ok_hands_by (T : Tx K mg) : FnOk P w K mg base CX0 1 T.f_hands_by.a T.f_hands_by.d ["row"] (spHandsBy K) := by
  refine T.f_hands_by.F.ok sc_hands_by (fun vs H Q E h => ?_) (fun cdv A outer s H vs Q E hr h => ?_)
  · obtain ⟨v, ps, rfl, _⟩ := h
    rfl
  · obtain ⟨v, ps, rfl, ht, hle, q⟩ := h
    obtain ⟨a, xs, rfl, ea, r⟩ := id ht.inv
    have hl := r.len
    rw [List.length_map] at hl
    refine ⟨_, (pss_one (ps_ret (pe_callTy (k_tupOf (K := K) rfl) (by rfl) T.n_tuple boot_tuple (pa_cons (pe_lc (own := [("pair", 1)]) rfl sc_hands_by.nd (pi_tup (pv 0)) (blkOk_by (N := ["row", "pair"]) (sc := defScope s_hands_by) (by decide +kernel)) (fun _ _ _ _ _ => (pg_name (i := 1) sc_hands_by.nd rfl (.inl rfl))) (fun _ _ _ _ _ => pts_nil) (fun _ _ _ _ _ => (pe_ix (kx_tup (K := K) rfl) (pv 1) pe_int (fun _ _ => rfl)))) pa_nil)))), ?_⟩
    refine ⟨_, rfl, a, rfl, ⟨_, SqT.of ea⟩, fun D nD => lc_tup (K := K) (a := a) (xs := xs) (fun i H2 => Same H H2 ∧ H2 D = some (.lst (((ps.take i).map (·.1)).map V.int)))
      ⟨same_new nD, upd_same⟩ (fun i H2 _ h2 => SqT.of (h2.1 _ _ ea)) ?_ ?_⟩
    · rintro i x H2 hx ⟨s2, eD⟩
      obtain ⟨p, q2, hp, rfl, eq⟩ := row_at (r.mono (same_tups s2)) hx
      refine ⟨rfl, _, rfl, q2, _, 0, _, rfl, rfl, SqT.of eq, atI_nat (j := 0) rfl, _, eD, ?_, fun b o e => ?_, ?_⟩
      · rw [List.length_map, List.length_map, List.length_take]
        exact small1000 (by omega)
      · rw [upd_ne (ne_of_none e nD)]
        exact s2 _ _ e
      · rw [upd_same, List.take_add_one, hp]
        simp
    · rintro H2 ⟨s2, eD⟩
      rw [List.take_of_length_le (by omega)] at eD
      refine ⟨D, _, rfl, .inl ⟨SqL.of eD, fun l nl => ?_⟩⟩
      exact q _ l (same_snoc s2 nl) (s2.free nl) upd_same
end
end Wl


set_option maxRecDepth 100000
namespace Wl
open PySem PySem.Spec PyProof.Rows L2
section
variable {P : Program} {w : World} {K : PySem.W.Frag} {mg : Str → Option Value} {base : Heap}
def spBlend : Sp := fun vs H Q _ => ∃ (d l c : Addr), vs = [.ref d] ∧ Draw H d l c ∧ ∀ (n : Int) (H' : Hp), Draw H' d l c → Keep (dF d l) H H' → Q (.int n) H'
theorem prime_at {i : Nat} {x : V} (h : ([V.int 2147483629, V.int 2147483587, V.int 2147483579] : List V)[i]? = some x) : ∃ p : Int, x = .int p ∧ 0 < p ∧ p < 2147483648 := by
  match i, h with
  | 0, h => simp at h; exact ⟨_, h.symm, by decide, by decide⟩
  | 1, h => simp at h; exact ⟨_, h.symm, by decide, by decide⟩
  | 2, h => simp at h; exact ⟨_, h.symm, by decide, by decide⟩
  | i + 3, h => simp at h
theorem ok__law_blend (T : Tx K mg) : FnOk P w K mg base CX0 1 T.f__law_blend.a T.f__law_blend.d ["draw"] spBlend := by
  refine T.f__law_blend.F.ok sc__law_blend (fun vs H Q E h => ?_) (fun cdv A outer s H vs Q E hr h => ?_)
  · obtain ⟨d, l, c, rfl, _⟩ := h
    rfl
  · obtain ⟨d, l, c, rfl, D, q⟩ := h
    obtain ⟨⟨ls, cs, r, t, e1, e2, e3⟩, ne⟩ := id D
    refine ⟨_, (pss_cons (ps_par (i := 1) (j := 2) rfl sc__law_blend.nd rfl rfl (by decide) rfl rfl (pa_cons (pe_op op_add (pe_dget (hu_of hr) (pv 0) pe_str (fun _ _ => rfl)) pe_int) (pa_cons pe_int pa_nil)) rfl)
      (pss_cons (ps_dput (hu_of hr) (pv 0) pe_str (pv 1) rfl)
      (pss_cons (ps_for PassesOwn.never rfl (pi_list (pe_lst (pa_cons pe_int (pa_cons pe_int (pa_cons pe_int pa_nil))))) (pg_name (i := 3) sc__law_blend.nd rfl (.inl rfl))
        (pss_cons (ps_set (i := 4) sc__law_blend.nd rfl (.inl rfl) (pe_op op_mod (pe_callTy call_int1 (by rfl) T.n_int boot_int (pa_cons (pe_op op_add (pe_op op_mul (pv 1) pe_int) (pe_op op_fdiv (pv 3) pe_int)) pa_nil)) (pv 3)))
        (pss_cons (ps_for PassesOwn.never rfl (pi_list (pe_dget (hu_of hr) (pv 0) pe_str (fun _ _ => rfl))) (pg_name (i := 5) sc__law_blend.nd rfl (.inl rfl))
          (pss_one (ps_set (i := 4) sc__law_blend.nd rfl (.inl rfl) (pe_op op_mod (pe_callTy call_int1 (by rfl) T.n_int boot_int (pa_cons (pe_op op_add (pe_op op_add (pe_op op_mul (pv 4) pe_int) (pe_callTy call_int1 (by rfl) T.n_int boot_int (pa_cons (pv 5) pa_nil))) pe_int) pa_nil)) (pv 3)))))
        (pss_one (ps_set (i := 2) sc__law_blend.nd rfl (.inl rfl) (pe_op op_add (pe_op op_mul (pv 2) pe_int) (pe_op op_mod (pe_callTy call_int1 (by rfl) T.n_int boot_int (pa_cons (pe_op op_pow (pv 4) pe_int) pa_nil)) (pv 3))))))))
      (pss_one (ps_ret (pv 2)))))), ?_⟩
    have ncd : c ≠ d := ne_of e3 e1 (by intro z; cases z)
    have nld : l ≠ d := ne_of e2 e1 (by intro z; cases z)
    -- turn, found = draw["turn"] + 1, 0; draw["turn"] = turn
    refine ⟨_, rfl, d, _, rfl, g_turn e1, t, 1, rfl, rfl, .int (t + 1), .int 0, rfl, ?_⟩
    refine ⟨_, rfl, _, rfl, d, _, rfl, p_turn e1, ?_⟩
    -- the primes
    refine ⟨by show 3 ≤ sizeLine; decide, fun p np => ?_⟩
    have K1 : Keep (dF d l) H (upd (upd H d (.dK (drawK l c r (t + 1)))) p (.lst [.int 2147483629, .int 2147483587, .int 2147483579])) := (Keep.rfl'.put (.inl rfl)).new np
    have D1 : Draw (upd H d (.dK (drawK l c r (t + 1)))) d l c := .mk' upd_same (by rw [upd_ne nld]; exact e2) (by rw [upd_ne ncd]; exact e3) ne
    have np' : H p = none := by
      have : p ≠ d := fun z => by rw [z, upd_same] at np; cases np
      rwa [upd_ne this] at np
    refine ⟨p, rfl, ⟨_, SqL.of upd_same⟩, for_list (K := K) (a := p) (xs := [.int 2147483629, .int 2147483587, .int 2147483579]) (fun i σ H2 => ∃ (f : Int) (y3 y4 y5 : Option V), σ = [some (.ref d), some (.int (t + 1)), some (.int f), y3, y4, y5] ∧
        H2 = upd (upd H d (.dK (drawK l c r (t + 1)))) p (.lst [.int 2147483629, .int 2147483587, .int 2147483579]))
      ⟨0, none, none, none, rfl, rfl⟩ (fun i σ H2 _ ⟨_, _, _, _, _, e⟩ => by rw [e]; exact SqL.of upd_same) ?_ ?_⟩
    · rintro i x σ H2 hx ⟨f, y3, y4, y5, rfl, rfl⟩
      obtain ⟨pr, rfl, p0, p1⟩ := prime_at hx
      -- stirred = int(turn * 69621 + prime // 7) % prime
      refine ⟨_, rfl, t + 1, 69621, rfl, rfl, .inr ⟨by decide, by decide⟩, _, rfl, pr, 7, rfl, rfl, ⟨by decide, by decide⟩, _, _, rfl, rfl, .inl ⟨_, rfl, ?_⟩⟩
      refine ⟨_, rfl, _, pr, rfl, rfl, p0, ?_⟩
      obtain ⟨ls', cs', r', t', g1, g2, g3⟩ := (D1.same (same_new np)).ex
      refine ⟨_, rfl, d, _, rfl, g_cells (same_new np _ _ upd_same), c, rfl, ⟨_, SqL.of g3⟩, for_list (K := K) (a := c) (xs := cs'.map V.int) (fun i σ H2 => ∃ (st : Int) (y5 : Option V), σ = [some (.ref d), some (.int (t + 1)), some (.int f), some (.int pr), some (.int st), y5] ∧ 0 ≤ st ∧ st < pr ∧
        H2 = upd (upd H d (.dK (drawK l c r (t + 1)))) p (.lst [.int 2147483629, .int 2147483587, .int 2147483579]))
        ⟨_, y5, rfl, Int.emod_nonneg _ (by omega), Int.emod_lt_of_pos _ p0, rfl⟩ (fun i σ H2 _ ⟨_, _, _, _, _, e⟩ => by rw [e]; exact SqL.of g3) ?_ ?_⟩
      · rintro j z σ H2 hz ⟨st, y5, rfl, s0, s1, rfl⟩
        obtain ⟨u, rfl⟩ : ∃ u, z = V.int u := by
          rw [List.getElem?_map] at hz
          cases e : cs'[j]? with
          | none => rw [e] at hz; cases hz
          | some u => rw [e] at hz; exact ⟨u, (Option.some.inj hz).symm⟩
        refine ⟨_, rfl, st, 48271, rfl, rfl, .inr ⟨by decide, by decide⟩, _, rfl, .inl ⟨_, rfl, _, _, rfl, rfl, _, 1, rfl, rfl, .inl ⟨_, rfl, _, rfl, _, pr, rfl, rfl, p0, ?_⟩⟩⟩
        exact ⟨_, _, rfl, Int.emod_nonneg _ (by omega), Int.emod_lt_of_pos _ p0, rfl⟩
      · rintro σ H2 ⟨st, y5, rfl, s0, s1, rfl⟩
        refine ⟨_, rfl, f, 2147483647, rfl, rfl, .inr ⟨by decide, by decide⟩, _, rfl, st, 5, rfl, rfl, ⟨by decide, by decide, by omega⟩, .inl ⟨_, rfl, _, rfl, _, pr, rfl, rfl, p0, _, _, rfl, rfl, ?_⟩⟩
        exact ⟨_, _, _, _, rfl, rfl⟩
    · rintro σ H2 ⟨f, y3, y4, y5, rfl, rfl⟩
      exact ⟨_, rfl, q _ _ (D1.same (same_new np)) K1⟩
def spTake : Sp := fun vs H Q _ => ∃ (d l c : Addr) (n : Int), vs = [.ref d, .int n] ∧ Draw H d l c ∧ 0 < n ∧ n < 1073741824 ∧ ∀ (k : Int) (H' : Hp), 0 ≤ k → k < n → Draw H' d l c → Keep (dF d l) H H' → Q (.int k) H'
theorem ok__law_take (T : Tx K mg) : FnOk P w K mg base CX0 2 T.f__law_take.a T.f__law_take.d ["draw", "size"] spTake := by
  refine T.f__law_take.F.ok sc__law_take (fun vs H Q E h => ?_) (fun cdv A outer s H vs Q E hr h => ?_)
  · obtain ⟨d, l, c, n, rfl, _⟩ := h
    rfl
  · obtain ⟨d, l, c, n, rfl, D, n0, n1, q⟩ := h
    obtain ⟨⟨ls, cs, r, t, e1, e2, e3⟩, ne⟩ := id D
    refine ⟨_, (pss_mid (ps_while PassesOwn.never (PW.pt (pw_and (pt_cmpR op_eq (pe_dget (hu_of hr) (pv 0) pe_str (fun _ _ => rfl)) pe_int (nomark _)) (pw_and1 (pt_cmpR (k_neD (K := K) rfl hr.units) (pe_dget (hu_of hr) (pv 0) pe_str (fun _ _ => rfl)) (pe_lst pa_nil) (nomark _)))))
        (pss_one (ps_dput (hu_of hr) (pv 0) pe_str (pe_kbm (K := K) rfl PySem.F.plainAttrs_list PySem.F.slot_list_pop PySem.F.type_list_pop mt_popAt (pe_dget (hu_of hr) (pv 0) pe_str (fun _ _ => rfl)) (pa_cons pe_int pa_nil)) rfl)))
      (pss_mid (ps_if (pt_cmpR op_eq (pe_dget (hu_of hr) (pv 0) pe_str (fun _ _ => rfl)) pe_int (nomark _)) (pss_one (ps_dput (hu_of hr) (pv 0) pe_str (pe_call (ok__law_blend T) (hr.mono (by decide)) (by rfl) T.f__law_blend.g T.f__law_blend.F.kp T.f__law_blend.b .nil pass0 (pa_cons (pv 0) pa_nil)) rfl)) pss_nil)
      (pss_cons (ps_set (i := 2) sc__law_take.nd rfl (.inl rfl) (pe_op op_mod (pe_callTy call_int1 (by rfl) T.n_int boot_int (pa_cons (pe_dget (hu_of hr) (pv 0) pe_str (fun _ _ => rfl)) pa_nil)) (pv 1)))
      (pss_cons (ps_dput (hu_of hr) (pv 0) pe_str (pe_op op_fdiv (pe_callTy call_int1 (by rfl) T.n_int boot_int (pa_cons (pe_dget (hu_of hr) (pv 0) pe_str (fun _ _ => rfl)) pa_nil)) (pv 1)) rfl)
      (pss_one (ps_ret (pv 2))))))), ?_⟩
    have ncd : c ≠ d := ne_of e3 e1 (by intro z; cases z)
    have nld : l ≠ d := ne_of e2 e1 (by intro z; cases z)
    -- the while
    refine ⟨fun σ H' => σ = [some (.ref d), some (.int n), none] ∧ Draw H' d l c ∧ Keep (dF d l) H H', ⟨fun m σ H2 => ∃ (ls cs : List Int) (r t : Int), σ = [some (.ref d), some (.int n), none] ∧ m = ls.length ∧ H2 d = some (.dK (drawK l c r t)) ∧ H2 l = some (.lst (ls.map V.int)) ∧ H2 c = some (.lst (cs.map V.int)) ∧ Keep (dF d l) H H2,
      ⟨_, ls, cs, r, t, rfl, rfl, e1, e2, e3, Keep.rfl'⟩, ?_⟩, ?_⟩
    · clear e1 e2 e3 ls cs r t
      rintro m σ H2 ⟨ls, cs, r, t, rfl, rfl, e1, e2, e3, K2⟩
      refine ⟨_, rfl, d, _, rfl, g_rest e1, rfl, _, rfl, ?_⟩
      by_cases hr0 : r = 0
      · rw [decide_eq_true (show V.int r = V.int 0 by rw [hr0])]
        refine iteT ⟨_, rfl, d, _, rfl, g_large e1, Nat.zero_le _, fun p np => ?_⟩
        have npd : d ≠ p := ne_of_none e1 np
        have npl : l ≠ p := ne_of_none e2 np
        have npc : c ≠ p := ne_of_none e3 np
        have e1' := (upd_ne (o := .lst []) npd).trans e1
        have e2' := (upd_ne (o := .lst []) npl).trans e2
        have e3' := (upd_ne (o := .lst []) npc).trans e3
        have K3 : Keep (dF d l) H (upd H2 p (.lst [])) := K2.new np
        refine ⟨.list (ls.map PyData.int), .list [], .lst (SqL.of e2') (dpInts ls), .lst (SqL.of upd_same) .nil, shapedInts ls, shapedNil, _, rfl, ?_⟩
        cases ls with
        | nil => exact iteF ⟨rfl, .mk' e1' e2' e3' ne, K3⟩
        | cons z ls =>
          refine iteT ⟨fun σ' H' => ∃ m', m' < (z :: ls).length ∧ _, fun _ _ h => h, ?_⟩
          refine ⟨_, rfl, d, _, rfl, g_large e1', .inl ⟨rfl, _, SqL.of e2'⟩, l, _, 0, 0, _, rfl, rfl, e2', by decide, by decide, seqIndex?_zero (by simp), rfl, ?_⟩
          refine ⟨_, rfl, d, _, rfl, p_rest (by rw [upd_ne (Ne.symm nld)]; exact e1'), ?_⟩
          refine ⟨ls.length, Nat.lt_succ_self _, ls, cs, z, t, rfl, rfl, upd_same, ?_, ?_, (K3.put (.inr rfl)).put (.inl rfl)⟩
          · rw [upd_ne nld, upd_same]
            rfl
          · rw [upd_ne ncd, upd_ne ne]
            exact e3'
      · rw [decide_eq_false (show ¬ V.int r = V.int 0 from fun z => hr0 (V.int.inj z))]
        exact iteF ⟨rfl, .mk' e1 e2 e3 ne, K2⟩
    · clear e1 e2 e3 ls cs r t
      rintro σ H2 ⟨rfl, D2, K2⟩
      obtain ⟨⟨ls, cs, r, t, e1, e2, e3⟩, _⟩ := id D2
      refine ⟨fun σ H' => σ = [some (.ref d), some (.int n), none] ∧ Draw H' d l c ∧ Keep (dF d l) H H', ?_, ?_⟩
      · refine ⟨_, rfl, d, _, rfl, g_rest e1, rfl, _, rfl, ite2 (fun _ => ?_) (fun _ => ⟨rfl, D2, K2⟩)⟩
        refine ⟨_, rfl, d, l, c, rfl, D2, fun b H3 D3 K3 => ?_⟩
        obtain ⟨⟨ls, cs, r, t, e1, e2, e3⟩, _⟩ := id D3
        refine ⟨_, rfl, d, _, rfl, p_rest e1, rfl, .mk' upd_same (by rw [upd_ne nld]; exact e2) (by rw [upd_ne ncd]; exact e3) ne, (K2.trans K3).put (.inl rfl)⟩
      · clear e1 e2 e3 ls cs r t
        rintro σ H3 ⟨rfl, D3, K3⟩
        obtain ⟨⟨ls, cs, r, t, e1, e2, e3⟩, _⟩ := id D3
        refine ⟨_, rfl, d, _, rfl, g_rest e1, .inl ⟨_, rfl, _, rfl, r, n, rfl, rfl, n0, ?_⟩⟩
        refine ⟨_, rfl, d, _, rfl, g_rest e1, .inl ⟨_, rfl, _, rfl, r, n, rfl, rfl, ⟨n0, n1⟩, ?_⟩⟩
        refine ⟨_, rfl, d, _, rfl, p_rest e1, ?_⟩
        exact ⟨_, rfl, q _ _ (Int.emod_nonneg _ (by omega)) (Int.emod_lt_of_pos _ n0) (.mk' upd_same (by rw [upd_ne nld]; exact e2) (by rw [upd_ne ncd]; exact e3) ne) (K3.put (.inl rfl))⟩
def spPick (K : PySem.W.Frag) : Sp := fun vs H Q _ => ∃ (d l c a : Addr) (xs : List V), vs = [.ref d, .ref a] ∧ Draw H d l c ∧ H a = some (.lst xs) ∧ a ≠ l ∧ xs ≠ [] ∧ xs.length < 1073741824 ∧
  ∀ (k : Nat) (x : V) (H' : Hp), xs[k]? = some x → Draw H' d l c → Keep (dF d l) H H' → Q x H'
theorem ok__law_pick (T : Tx K mg) : FnOk P w K mg base CX0 3 T.f__law_pick.a T.f__law_pick.d ["draw", "some"] (spPick K) := by
  refine T.f__law_pick.F.ok sc__law_pick (fun vs H Q E h => ?_) (fun cdv A outer s H vs Q E hr h => ?_)
  · obtain ⟨d, l, c, a, xs, rfl, _⟩ := h
    rfl
  · obtain ⟨d, l, c, a, xs, rfl, D, ha, nal, hne, hlen, q⟩ := h
    obtain ⟨kvs, ed⟩ := D.d_some
    have nad : a ≠ d := ne_of ha ed (by intro z; cases z)
    have hpos : 0 < xs.length := List.length_pos_iff.mpr hne
    refine ⟨_, (pss_one (ps_ret (pe_ix (kx_list (K := K) rfl) (pv 1) (pe_call (ok__law_take T) (hr.mono (by decide)) (by rfl) T.f__law_take.g T.f__law_take.F.kp T.f__law_take.b .nil pass0 (pa_cons (pv 0) (pa_cons (pe_callB (k_len (K := K) rfl) (by rfl) T.n_len PySem.boot_len (pa_cons (pv 1) pa_nil)) pa_nil))) (fun _ _ => rfl)))), ?_⟩
    refine ⟨_, rfl, _, rfl, _, rfl, a, xs, rfl, .inl (SqL.of ha), d, l, c, _, rfl, D, by omega, by omega, fun k H' h0 h1 D' K' => ?_⟩
    have hk : k.toNat < xs.length := by omega
    have ha' := K' _ _ ha (fun z => z.elim nad nal)
    refine ⟨a, xs, k, xs[k.toNat], rfl, rfl, SqL.of ha', at_of (j := k.toNat) (by omega) (List.getElem?_eq_getElem hk), ?_⟩
    exact q k.toNat _ H' (List.getElem?_eq_getElem hk) D' K'
def spShuf (K : PySem.W.Frag) : Sp := fun vs H Q _ => ∃ (d l c a : Addr) (ns : List Int), vs = [.ref d, .ref a] ∧ Draw H d l c ∧ H a = some (.lst (ns.map V.int)) ∧ a ≠ l ∧ ns.length ≤ 1000 ∧
  ∀ (ms : List Int) (p : Addr) (H' : Hp), ms.Perm ns → H p = none → H' p = some (.lst (ms.map V.int)) → Draw H' d l c → Keep (dF d l) H H' → Q (.ref p) H'
theorem erase_map {α β : Type} (f : α → β) : ∀ (l : List α) (k : Nat), (l.map f).eraseIdx k = (l.eraseIdx k).map f
  | [], _ => rfl
  | _ :: _, 0 => rfl
  | x :: r, k + 1 => by
    show f x :: (r.map f).eraseIdx k = f x :: (r.eraseIdx k).map f
    rw [erase_map f r k]
theorem erase_perm {α : Type} : ∀ (l : List α) (k : Nat) (h : k < l.length), (l[k] :: l.eraseIdx k).Perm l
  | [], k, h => absurd h (Nat.not_lt_zero k)
  | x :: r, 0, _ => .refl _
  | x :: r, k + 1, h => by
    have h' : k < r.length := Nat.lt_of_succ_lt_succ h
    show (r[k] :: x :: r.eraseIdx k).Perm (x :: r)
    exact (List.Perm.swap x r[k] _).trans ((erase_perm r k h').cons x)
theorem ok__law_shuffled (T : Tx K mg) : FnOk P w K mg base CX0 3 T.f__law_shuffled.a T.f__law_shuffled.d ["draw", "some"] (spShuf K) := by
  refine T.f__law_shuffled.F.ok sc__law_shuffled (fun vs H Q E h => ?_) (fun cdv A outer s H vs Q E hr h => ?_)
  · obtain ⟨d, l, c, a, ns, rfl, _⟩ := h
    rfl
  · obtain ⟨d, l, c, a, ns, rfl, D, ha, nal, hlen, q⟩ := h
    refine ⟨_, (pss_cons (ps_par (i := 2) (j := 3) rfl sc__law_shuffled.nd rfl rfl (by decide) rfl rfl (pa_cons (pe_callTy (k_listOf (K := K) rfl) (by rfl) T.n_list boot_list (pa_cons (pv 1) pa_nil)) (pa_cons (pe_lst pa_nil) pa_nil)) rfl)
      (pss_cons (ps_while PassesOwn.never (pt_cmpR (k_neD (K := K) rfl hr.units) (pv 2) (pe_lst pa_nil) (nomark _))
        (pss_one (ps_expr (pe_kbm (K := K) rfl PySem.F.plainAttrs_list PySem.F.slot_list_append PySem.F.type_list_append mt_append (pv 3) (pa_cons (pe_kbm (K := K) rfl PySem.F.plainAttrs_list PySem.F.slot_list_pop PySem.F.type_list_pop mt_popAt (pv 2) (pa_cons (pe_call (ok__law_take T) (hr.mono (by decide)) (by rfl) T.f__law_take.g T.f__law_take.F.kp T.f__law_take.b .nil pass0 (pa_cons (pv 0) (pa_cons (pe_callB (k_len (K := K) rfl) (by rfl) T.n_len PySem.boot_len (pa_cons (pv 2) pa_nil)) pa_nil))) pa_nil)) pa_nil)))))
      (pss_one (ps_ret (pv 3))))), ?_⟩
    -- left, found = list(some), []
    refine ⟨_, rfl, a, _, rfl, .inl (SqL.of ha), fun p1 n1 => ⟨Nat.zero_le _, fun p2 n2 => ⟨_, _, rfl, ?_⟩⟩⟩
    have n21 : p2 ≠ p1 := fun z => by rw [z, upd_same] at n2; cases n2
    have n2' : H p2 = none := by rwa [upd_ne n21] at n2
    have o1 := D.off n1
    have o2 := D.off n2'
    -- the loop
    refine ⟨fun m σ H2 => ∃ ls fs : List Int, σ = [some (.ref d), some (.ref a), some (.ref p1), some (.ref p2)] ∧ m = ls.length ∧ (fs ++ ls).Perm ns ∧ H2 p1 = some (.lst (ls.map V.int)) ∧ H2 p2 = some (.lst (fs.map V.int)) ∧ Draw H2 d l c ∧ Keep (dF d l) H H2,
      ⟨_, ns, [], rfl, rfl, .refl _, by rw [upd_ne (Ne.symm n21), upd_same], upd_same, (D.same (same_new n1)).same (same_new n2), (Keep.rfl'.new n1).new n2⟩, ?_⟩
    rintro m σ H2 ⟨ls, fs, rfl, rfl, hp, g1, g2, D2, K2⟩
    have hlen2 := hp.length_eq
    rw [List.length_append] at hlen2
    refine ⟨_, rfl, Nat.zero_le _, fun p np => ?_⟩
    have g1' := same_new (o := .lst []) np _ _ g1
    have g2' := same_new (o := .lst []) np _ _ g2
    have D2' := D2.same (same_new (o := .lst []) np)
    have K2' : Keep (dF d l) H (upd H2 p (.lst [])) := K2.new np
    refine ⟨.list (ls.map PyData.int), .list [], .lst (SqL.of g1') (dpInts ls), .lst (SqL.of upd_same) .nil, shapedInts ls, shapedNil, _, rfl, ?_⟩
    cases ls with
    | nil =>
      refine iteF ⟨_, rfl, q fs p2 _ (by simpa using hp) n2' g2' D2' K2'⟩
    | cons z ls =>
      refine iteT ⟨fun σ' H' => ∃ m', m' < (z :: ls).length ∧ _, fun _ _ h => h, ?_⟩
      refine ⟨_, rfl, .inl ⟨rfl, _, SqL.of g2'⟩, _, rfl, .inl ⟨rfl, _, SqL.of g1'⟩, _, rfl, _, rfl, p1, _, rfl, .inl (SqL.of g1'), d, l, c, _, rfl, D2', ?_, ?_, fun k H3 h0 h1 D3 K3 => ?_⟩
      · rw [List.length_map, List.length_cons]
        omega
      · rw [List.length_map]
        omega
      have g13 := K3 _ _ g1' o1
      have g23 := K3 _ _ g2' o2
      rw [List.length_map] at h1
      have hk : k.toNat < (z :: ls).length := by omega
      have hx : ((z :: ls).map V.int)[k.toNat]? = some (V.int (z :: ls)[k.toNat]) := by rw [List.getElem?_map, List.getElem?_eq_getElem hk]; rfl
      refine ⟨p1, _, k, k.toNat, _, rfl, rfl, g13, by omega, by omega, seqIndex_of h0 (by rw [List.length_map]; exact h1), hx, ?_⟩
      refine ⟨p2, fs.map V.int, _, rfl, rfl, by rw [upd_ne n21]; exact g23, ?_, ?_⟩
      · rw [List.length_map]
        exact small1000 (by omega)
      refine ⟨((z :: ls).eraseIdx k.toNat).length, ?_, _, fs ++ [(z :: ls)[k.toNat]], rfl, rfl, ?_, ?_, ?_, ?_, ?_⟩
      · rw [List.length_eraseIdx_of_lt hk]
        simp
      · refine List.Perm.trans ?_ hp
        rw [List.append_assoc]
        refine List.Perm.append_left _ ?_
        exact erase_perm _ _ hk
      · rw [upd_ne (Ne.symm n21), upd_same, erase_map]
      · rw [upd_same, List.map_append]
        rfl
      · refine (D3.keep (F := fun b => b = p1 ∨ b = p2) ((Keep.rfl'.put (.inl rfl)).put (.inr rfl)) (fun z => z.elim (fun e => o1 (.inl e.symm)) (fun e => o2 (.inl e.symm))) (fun z => z.elim (fun e => o1 (.inr e.symm)) (fun e => o2 (.inr e.symm))) ?_)
        obtain ⟨⟨_, _, _, _, _, _, e3⟩, _⟩ := id D
        exact fun z => z.elim (fun e => ne_of_none e3 n1 e) (fun e => ne_of_none e3 n2' e)
      · exact ((K2'.trans K3).put' n1).put' n2'
end
end Wl


set_option maxRecDepth 100000
namespace Wl
open PySem PySem.Spec PyProof.Rows L2
section
variable {P : Program} {w : World} {K : PySem.W.Frag} {mg : Str → Option Value} {base : Heap}
theorem int_at {ns : List Int} {i : Nat} {x : V} (h : (ns.map V.int)[i]? = some x) : ∃ z, ns[i]? = some z ∧ x = .int z := by
  rw [List.getElem?_map] at h
  cases e : ns[i]? with
  | none => rw [e] at h; cases h
  | some u => rw [e] at h; exact ⟨u, rfl, (Option.some.inj h).symm⟩
def spBegun (K : PySem.W.Frag) : Sp := fun vs H Q _ => ∃ (a : Addr) (ns : List Int), vs = [.ref a] ∧ SqL K H a (ns.map V.int) ∧ ns.length ≤ 63 ∧ ∀ (d l c : Addr) (H' : Hp), Same H H' → H d = none → H l = none → H c = none → Draw H' d l c → Q (.ref d) H'
theorem ok__law_begun (T : Tx K mg) : FnOk P w K mg base CX0 1 T.f__law_begun.a T.f__law_begun.d ["script"] (spBegun K) := by
  refine T.f__law_begun.F.ok sc__law_begun (fun vs H Q E h => ?_) (fun cdv A outer s H vs Q E hr h => ?_)
  · obtain ⟨a, ns, rfl, _⟩ := h
    rfl
  · obtain ⟨a, ns, rfl, hS, hlen, q⟩ := h
    refine ⟨_, (pss_cons (ps_setLc (i := 1) (own := [("cell", 2)]) rfl sc__law_begun.nd rfl rfl (sw_true rfl rfl rfl (by decide +kernel)) (pi_list (pv 0)) (blkOk_by (N := ["script", "large", "cell"]) (sc := defScope s__law_begun) (by decide +kernel)) (fun _ _ _ _ _ => (pg_name (i := 2) sc__law_begun.nd rfl (.inl rfl))) (fun _ _ _ _ _ => (pts_one (pt_cmpR op_ge (pe_callB call_abs (by rfl) T.n_abs (by decide +kernel) (pa_cons (pv 2) pa_nil)) (pe_op op_pow pe_int pe_int) (nomark _)))) (fun _ _ _ _ _ => (pe_op op_sub (pe_callB call_abs (by rfl) T.n_abs (by decide +kernel) (pa_cons (pv 2) pa_nil)) (pe_op op_pow pe_int pe_int))))
      (pss_one (ps_ret (pe_disp (pps_cons pe_str (pv 1) (pps_cons pe_str (pe_lc (own := [("cell", 2)]) rfl sc__law_begun.nd (pi_list (pv 0)) (blkOk_by (N := ["script", "large", "cell"]) (sc := defScope s__law_begun) (by decide +kernel)) (fun _ _ _ _ _ => (pg_name (i := 2) sc__law_begun.nd rfl (.inl rfl))) (fun _ _ _ _ _ => pts_nil) (fun _ _ _ _ _ => (pe_callB call_abs (by rfl) T.n_abs (by decide +kernel) (pa_cons (pv 2) pa_nil)))) (pps_cons pe_str pe_int (pps_cons pe_str pe_int pps_nil)))) (by rfl) (by rfl) (fun z => by cases z) (by decide))))), ?_⟩
    -- large
    refine ⟨_, rfl, a, rfl, ⟨_, hS⟩, fun D nD => lc_list (K := K) (a := a) (xs := ns.map V.int) (fun i H2 => ∃ ls : List Int, H2 D = some (.lst (ls.map V.int)) ∧ ls.length ≤ i ∧ Same H H2)
      ⟨[], upd_same, Nat.le_refl _, same_new nD⟩ (fun i H2 _ ⟨_, _, _, s2⟩ => s2.seq hS) ?_ ?_⟩
    · rintro i x H2 hx ⟨ls, eD, hl, s2⟩
      obtain ⟨z, hz, rfl⟩ := int_at hx
      have hi := (List.getElem?_eq_some_iff.mp hz).1
      refine ⟨rfl, _, rfl, z, rfl, 10, 18, rfl, rfl, ⟨by decide, by decide, by decide⟩, _, _, rfl, rfl, _, rfl, ite2 (fun _ => ?_) (fun _ => ⟨ls, eD, by omega, s2⟩)⟩
      refine ⟨_, rfl, z, rfl, 10, 18, rfl, rfl, ⟨by decide, by decide, by decide⟩, _, _, rfl, rfl, _, eD, ?_, ls ++ [(if z < 0 then -z else z) - 10 ^ (18 : Int).toNat], ?_, ?_, ?_⟩
      · rw [List.length_map]
        exact small1000 (by omega)
      · rw [upd_same, List.map_append]
        rfl
      · rw [List.length_append, List.length_singleton]
        omega
      · exact fun b o e => by
          rw [upd_ne (ne_of_none e nD)]
          exact s2 b o e
    · rintro H2 ⟨ls, eD, hl, s2⟩
      refine fun p np => ⟨_, rfl, _, rfl, a, rfl, ⟨_, (same_snoc s2 np).seq hS⟩, fun C nC => lc_list (K := K) (a := a) (xs := ns.map V.int) (fun i H3 => ∃ cs : List Int, H3 C = some (.lst (cs.map V.int)) ∧ cs.length ≤ i ∧ Same (upd H2 p (.dK [])) H3)
        ⟨[], upd_same, Nat.le_refl _, same_new nC⟩ (fun i H3 _ ⟨_, _, _, s3⟩ => s3.seq ((same_snoc s2 np).seq hS)) ?_ ?_⟩
      · rintro i x H3 hx ⟨cs, eC, hl, s3⟩
        obtain ⟨z, hz, rfl⟩ := int_at hx
        have hi := (List.getElem?_eq_some_iff.mp hz).1
        refine ⟨rfl, _, rfl, z, rfl, _, eC, ?_, cs ++ [if z < 0 then -z else z], ?_, ?_, ?_⟩
        · rw [List.length_map]
          exact small1000 (by omega)
        · rw [upd_same, List.map_append]
          rfl
        · rw [List.length_append, List.length_singleton]
          omega
        · exact fun b o e => by
            rw [upd_ne (ne_of_none e nC)]
            exact s3 b o e
      · rintro H3 ⟨cs, eC, hl3, s3⟩
        have ep : H3 p = some (.dK []) := s3 _ _ upd_same
        have npD : p ≠ D := fun z => by rw [z, eD] at np; cases np
        have nCp : C ≠ p := fun z => by rw [z, upd_same] at nC; cases nC
        have nC2 : H2 C = none := by rwa [upd_ne nCp] at nC
        have nCD : C ≠ D := fun z => by rw [z, eD] at nC2; cases nC2
        have eD3 : H3 D = some (.lst (ls.map V.int)) := s3 _ _ (by rw [upd_ne (Ne.symm npD)]; exact eD)
        refine ⟨ep, drawK D C 0 0, rfl, by show 4 ≤ 15; decide, ?_⟩
        rw [dk_merge]
        refine q p D C _ ?_ (s2.free np) nD (s2.free nC2) (.mk' upd_same (by rw [upd_ne (Ne.symm npD)]; exact eD3) (by rw [upd_ne nCp]; exact eC) nCD)
        intro b o e
        have := s2 b o e
        have nb : b ≠ p := ne_of_none this np
        rw [upd_ne nb]
        exact s3 _ _ (by rw [upd_ne nb]; exact this)
end
end Wl


set_option maxRecDepth 100000
namespace Wl
open PySem PySem.Spec PyProof.Rows L2
/-- ascending hands, one to four -/
structure HandsOk (hs : List Int) : Prop where
  ne : hs ≠ []
  le : hs.length ≤ 4
  rg : ∀ h ∈ hs, 0 ≤ h ∧ h ≤ 3
  up : hs.Pairwise (· < ·)
theorem cut_to (xs : List V) (k : Nat) : cutV xs none (some (k : Int)) = xs.take k := by
  unfold cutV
  rw [HT.sIx_nat, HT.sIx_none, List.drop_zero, Nat.sub_zero, Nat.min_comm]
  by_cases h : k ≤ xs.length
  · rw [Nat.min_eq_right h]
  · rw [Nat.min_eq_left (by omega), List.take_of_length_le (Nat.le_refl _), List.take_of_length_le (by omega)]
theorem lt_of_le_nodup : ∀ {l : List Int}, l.Pairwise (· ≤ ·) → l.Nodup → l.Pairwise (· < ·)
  | [], _, _ => .nil
  | x :: r, h, n => by
    cases h with
    | cons h1 h2 =>
      have n' := List.nodup_cons.mp n
      refine .cons (fun y hy => ?_) (lt_of_le_nodup h2 n'.2)
      have := h1 y hy
      have ne : x ≠ y := fun z => n'.1 (z ▸ hy)
      omega
theorem hands_ok {ms ns : List Int} {k : Nat} (h : ms.Perm [0, 1, 2, 3]) (hn : ns.Perm (ms.take k)) (hp : ns.Pairwise (· ≤ ·)) (h0 : 0 < k) (h4 : k ≤ 4) : HandsOk ns := by
  have hl := h.length_eq
  have hl2 := hn.length_eq
  rw [List.length_take] at hl2
  simp at hl
  have nd : ns.Nodup := hn.nodup_iff.mpr (List.Nodup.sublist (List.take_sublist _ _) (h.nodup_iff.mpr (by decide)))
  refine ⟨fun z => ?_, by omega, fun x hx => ?_, lt_of_le_nodup hp nd⟩
  · rw [z] at hl2
    simp at hl2
    omega
  · have h1 := h.mem_iff.mp (List.mem_of_mem_take (hn.mem_iff.mp hx))
    simp at h1
    omega
section
variable {P : Program} {w : World} {K : PySem.W.Frag} {mg : Str → Option Value} {base : Heap}
def spHands : Sp := fun vs H Q _ => ∃ (d l c : Addr), vs = [.ref d, .int 4] ∧ Draw H d l c ∧
  ∀ (hs : List Int) (p : Addr) (H' : Hp), HandsOk hs → H p = none → H' p = some (.tup (hs.map V.int)) → Draw H' d l c → Keep (dF d l) H H' → Q (.ref p) H'
theorem small_at {i : Nat} {x : V} (h : (([1, 2, 2, 3, 3, 3, 4] : List Int).map V.int)[i]? = some x) : ∃ k : Nat, x = .int k ∧ 0 < k ∧ k ≤ 4 := by
  match i, h with
  | 0, h => simp at h; exact ⟨1, h.symm, by decide, by decide⟩
  | 1, h => simp at h; exact ⟨2, h.symm, by decide, by decide⟩
  | 2, h => simp at h; exact ⟨2, h.symm, by decide, by decide⟩
  | 3, h => simp at h; exact ⟨3, h.symm, by decide, by decide⟩
  | 4, h => simp at h; exact ⟨3, h.symm, by decide, by decide⟩
  | 5, h => simp at h; exact ⟨3, h.symm, by decide, by decide⟩
  | 6, h => simp at h; exact ⟨4, h.symm, by decide, by decide⟩
  | i + 7, h => simp at h
theorem ok__law_hands (T : Tx K mg) : FnOk P w K mg base CX0 4 T.f__law_hands.a T.f__law_hands.d ["draw", "most"] spHands := by
  refine T.f__law_hands.F.ok sc__law_hands (fun vs H Q E h => ?_) (fun cdv A outer s H vs Q E hr h => ?_)
  · obtain ⟨d, l, c, rfl, _⟩ := h
    rfl
  · obtain ⟨d, l, c, rfl, D, q⟩ := h
    refine ⟨_, (pss_cons (ps_set (i := 2) sc__law_hands.nd rfl (.inl rfl) (pe_call (ok__law_pick T) (hr.mono (by decide)) (by rfl) T.f__law_pick.g T.f__law_pick.F.kp T.f__law_pick.b .nil pass0 (pa_cons (pv 0) (pa_cons (pe_lc (own := [("k", 3)]) rfl sc__law_hands.nd (pi_list (pe_lst (pa_cons pe_int (pa_cons pe_int (pa_cons pe_int (pa_cons pe_int (pa_cons pe_int (pa_cons pe_int (pa_cons pe_int pa_nil))))))))) (blkOk_by (N := ["draw", "most", "many", "k"]) (sc := defScope s__law_hands) (by decide +kernel)) (fun _ _ _ _ _ => (pg_name (i := 3) sc__law_hands.nd rfl (.inl rfl))) (fun _ _ _ _ _ => (pts_one (pt_cmpR op_le (pv 3) (pv 1) (nomark _)))) (fun _ _ _ _ _ => (pv 3))) pa_nil))))
      (pss_one (ps_ret (pe_callTy (k_tupOf (K := K) rfl) (by rfl) T.n_tuple boot_tuple (pa_cons (pe_callB (k_sorted (K := K) rfl) (by rfl) T.n_sorted (by decide +kernel) (pa_cons (pe_slice (k_sll (K := K) rfl) (pe_call (ok__law_shuffled T) (hr.mono (by decide)) (by rfl) T.f__law_shuffled.g T.f__law_shuffled.F.kp T.f__law_shuffled.b .nil pass0 (pa_cons (pv 0) (pa_cons (pe_lst (pa_cons pe_int (pa_cons pe_int (pa_cons pe_int (pa_cons pe_int pa_nil))))) pa_nil))) po_none (po_some (pv 2))) pa_nil)) pa_nil))))), ?_⟩
    refine ⟨_, rfl, by show 7 ≤ sizeLine; decide, fun p np => ⟨p, rfl, ⟨_, SqL.of upd_same⟩, fun B nB => ?_⟩⟩
    have s1 := same_new (o := .lst (([1, 2, 2, 3, 3, 3, 4] : List Int).map V.int)) np
    refine lc_list (K := K) (a := p) (xs := ([1, 2, 2, 3, 3, 3, 4] : List Int).map V.int) (fun i H2 => H2 B = some (.lst ((([1, 2, 2, 3, 3, 3, 4] : List Int).map V.int).take i)) ∧ Same (upd H p (.lst (([1, 2, 2, 3, 3, 3, 4] : List Int).map V.int))) H2)
      ⟨upd_same, same_new nB⟩ (fun i H2 _ h2 => SqL.of (h2.2 _ _ upd_same)) ?_ ?_
    · rintro i x H2 hx ⟨eB, s2⟩
      obtain ⟨k, rfl, k0, k4⟩ := small_at hx
      refine ⟨rfl, _, rfl, _, rfl, _, _, rfl, rfl, true, congrArg V.bl (decide_eq_true (by omega)), iteT ?_⟩
      refine ⟨_, rfl, _, eB, ?_, ?_, ?_⟩
      · exact small1000 (Nat.le_trans (Nat.le_of_eq List.length_take) (Nat.le_trans (Nat.min_le_right _ _) (by decide)))
      · rw [upd_same, List.take_add_one, hx]
        rfl
      · exact fun b o e => by
          rw [upd_ne (ne_of_none e nB)]
          exact s2 b o e
    · rintro H2 ⟨eB, s2⟩
      rw [List.take_of_length_le (by simp)] at eB
      have nB' : H B = none := s1.free nB
      have D2 := D.same (s1.trans s2)
      obtain ⟨xl, el⟩ := D.l_some
      refine ⟨d, l, c, B, _, rfl, D2, eB, (ne_of_none el nB').symm, by simp, by simp, fun k x H3 hx D3 K3 => ?_⟩
      obtain ⟨k, rfl, k0, k4⟩ := small_at hx
      have K1 : Keep (dF d l) H H3 := (Keep.of (s1.trans s2)).trans K3
      -- tuple(sorted(shuffled[:many]))
      refine ⟨_, rfl, by show 4 ≤ sizeLine; decide, fun r nr => ?_⟩
      have D4 := D3.same (same_new (o := .lst (([0, 1, 2, 3] : List Int).map V.int)) nr)
      obtain ⟨xl4, el4⟩ := D3.l_some
      refine ⟨d, l, c, r, [0, 1, 2, 3], rfl, D4, upd_same, (ne_of_none el4 nr).symm, by simp, fun ms v H5 hm nv ev D5 K5 => ?_⟩
      have K2 : Keep (dF d l) H H5 := (K1.new nr).trans K5
      refine ⟨_, rfl, _, rfl, v, _, rfl, SqL.of ev, fun v2 nv2 => ?_⟩
      rw [cut_to, ← List.map_take]
      refine ⟨v2, ms.take k, rfl, SqL.of upd_same, fun ns v3 hn hp nv3 => ?_⟩
      refine ⟨v3, _, rfl, .inl ⟨SqL.of upd_same, fun v4 nv4 => ?_⟩⟩
      have D6 := ((D5.same (same_new (o := .lst ((ms.take k).map V.int)) nv2)).same (same_new (o := .lst (ns.map V.int)) nv3)).same (same_new (o := .tup (ns.map V.int)) nv4)
      have K6 := ((K2.new (o := .lst ((ms.take k).map V.int)) nv2).new (o := .lst (ns.map V.int)) nv3)
      exact q ns v4 _ (hands_ok hm hn hp k0 k4) (K6.free nv4 (((D5.same (same_new nv2)).same (same_new nv3)).off nv4)) upd_same D6 (K6.new nv4)
def spRow (K : PySem.W.Frag) : Sp := fun vs H Q _ => ∃ (d l c a : Addr) (hs : List Int), vs = [.ref d, .ref a] ∧ Draw H d l c ∧ H a = some (.tup (hs.map V.int)) ∧ hs.length ≤ 4 ∧
  ∀ (ps : List (Int × Int)) (v : V) (H' : Hp), ps.map (·.1) = hs → (∀ p ∈ ps, 0 ≤ p.2 ∧ p.2 ≤ 999999999) → Tr H' v (rowD ps) → Draw H' d l c → Keep (dF d l) H H' → Q v H'
/-- the menus of values -/
def MenuOk (ns : List Int) : Prop := ns ≠ [] ∧ ns.length ≤ 10 ∧ ∀ n ∈ ns, 0 ≤ n ∧ n ≤ 999999999
theorem pick4 {H : Hp} {a1 a2 a3 a4 : Addr} {n1 n2 n3 n4 : List Int} (h1 : H a1 = some (.lst (n1.map V.int))) (h2 : H a2 = some (.lst (n2.map V.int))) (h3 : H a3 = some (.lst (n3.map V.int))) (h4 : H a4 = some (.lst (n4.map V.int)))
    (m1 : MenuOk n1) (m2 : MenuOk n2) (m3 : MenuOk n3) (m4 : MenuOk n4) {P : Addr → Prop} (p1 : P a1) (p2 : P a2) (p3 : P a3) (p4 : P a4) {k : Nat} {x : V} (hx : ([V.ref a1, V.ref a2, V.ref a3, V.ref a4] : List V)[k]? = some x) :
    ∃ b ns, x = .ref b ∧ H b = some (.lst (ns.map V.int)) ∧ MenuOk ns ∧ P b := by
  match k, hx with
  | 0, h => simp at h; exact ⟨a1, n1, h.symm, h1, m1, p1⟩
  | 1, h => simp at h; exact ⟨a2, n2, h.symm, h2, m2, p2⟩
  | 2, h => simp at h; exact ⟨a3, n3, h.symm, h3, m3, p3⟩
  | 3, h => simp at h; exact ⟨a4, n4, h.symm, h4, m4, p4⟩
  | i + 4, h => simp at h
theorem ok__law_row (T : Tx K mg) : FnOk P w K mg base CX0 4 T.f__law_row.a T.f__law_row.d ["draw", "hands"] (spRow K) := by
  refine T.f__law_row.F.ok sc__law_row (fun vs H Q E h => ?_) (fun cdv A outer s H vs Q E hr h => ?_)
  · obtain ⟨d, l, c, a, hs, rfl, _⟩ := h
    rfl
  · obtain ⟨d, l, c, a, hs, rfl, D, ea, hle, q⟩ := h
    refine ⟨_, (pss_cons (ps_set (i := 2) sc__law_row.nd rfl (.inr rfl) (pe_call (ok__law_pick T) (hr.mono (by decide)) (by rfl) T.f__law_pick.g T.f__law_pick.F.kp T.f__law_pick.b .nil pass0 (pa_cons (pv 0) (pa_cons (pe_lst (pa_cons (pe_lst (pa_cons pe_int (pa_cons pe_int pa_nil))) (pa_cons (pe_lst (pa_cons pe_int (pa_cons pe_int (pa_cons pe_int pa_nil)))) (pa_cons (pe_lst (pa_cons pe_int pa_nil)) (pa_cons (pe_lst (pa_cons pe_int (pa_cons pe_int (pa_cons pe_int pa_nil)))) pa_nil))))) pa_nil))))
      (pss_one (ps_ret (pe_callTy (k_tupOf (K := K) rfl) (by rfl) T.n_tuple boot_tuple (pa_cons (pe_lc (own := [("hand", 3)]) rfl sc__law_row.nd (pi_tup (pv 1)) (blkOk_by (N := ["draw", "hands", "menu", "hand"]) (sc := defScope s__law_row) (by decide +kernel)) (fun _ _ _ _ _ => (pg_name (i := 3) sc__law_row.nd rfl (.inl rfl))) (fun _ _ _ _ _ => pts_nil) (fun _ _ _ _ _ => (pe_tup (pa_cons (pv 3) (pa_cons (pe_call (ok__law_pick T) (hr.mono (by decide)) (by rfl) T.f__law_pick.g T.f__law_pick.F.kp T.f__law_pick.b .nil pass0 (pa_cons (pv 0) (pa_cons (pv 2) pa_nil))) pa_nil))))) pa_nil))))), ?_⟩
    refine ⟨_, rfl, by show 2 ≤ sizeLine; decide, fun a1 n1 => ⟨by show 3 ≤ sizeLine; decide, fun a2 n2 => ⟨by show 1 ≤ sizeLine; decide, fun a3 n3 => ⟨by show 3 ≤ sizeLine; decide, fun a4 n4 => ⟨by show 4 ≤ sizeLine; decide, fun p np => ?_⟩⟩⟩⟩⟩
    have t1 := same_new (o := .lst [.int 5, .int 7]) n1
    have t2 := same_new (o := .lst [.int 0, .int 1, .int 2]) n2
    have t3 := same_new (o := .lst [.int 4]) n3
    have t4 := same_new (o := .lst [.int 999999999, .int 0, .int 3]) n4
    have t5 := same_new (o := .lst [.ref a1, .ref a2, .ref a3, .ref a4]) np
    have S5 := (((t1.trans t2).trans t3).trans t4).trans t5
    have D5 := D.same S5
    obtain ⟨xl, el⟩ := (D.same (((t1.trans t2).trans t3).trans t4)).l_some
    refine ⟨d, l, c, p, _, rfl, D5, upd_same, (ne_of_none el np).symm, by simp, by simp, fun k x H1 hx D1 K1 => ?_⟩
    have h1 := (((t2.trans t3).trans t4).trans t5) _ _ (upd_same (H := H) (a := a1) (o := .lst [.int 5, .int 7]))
    have h2 := ((t3.trans t4).trans t5) _ _ (upd_same (a := a2) (o := .lst [.int 0, .int 1, .int 2]))
    have h3 := (t4.trans t5) _ _ (upd_same (a := a3) (o := .lst [.int 4]))
    have h4 := t5 _ _ (upd_same (a := a4) (o := .lst [.int 999999999, .int 0, .int 3]))
    have m2 : H a2 = none := t1.free n2
    have m3 : H a3 = none := (t1.trans t2).free n3
    have m4 : H a4 = none := ((t1.trans t2).trans t3).free n4
    obtain ⟨b, ns, rfl, eb, mb, nb⟩ := pick4 (n1 := [5, 7]) (n2 := [0, 1, 2]) (n3 := [4]) (n4 := [999999999, 0, 3]) h1 h2 h3 h4 ⟨by simp, by simp, by simp⟩ ⟨by simp, by simp, by simp⟩ ⟨by simp, by simp, by simp⟩ ⟨by simp, by simp, by simp⟩ (P := fun b => H b = none) n1 m2 m3 m4 hx
    have eb1 := K1 _ _ eb (D.off nb)
    have ea1 := K1 _ _ (S5 _ _ ea) (D.offT ea)
    have K0 : Keep (dF d l) H H1 := (Keep.of S5).trans K1
    refine ⟨_, rfl, a, rfl, ⟨_, SqT.of ea1⟩, fun B nB => lc_tup (K := K) (a := a) (xs := hs.map V.int) (fun i H2 => ∃ (vs : List V) (ps : List (Int × Int)), H2 B = some (.lst vs) ∧ TrAll H2 vs (ps.map fun p => .tuple [.int p.1, .int p.2]) ∧ ps.map (·.1) = hs.take i ∧
        (∀ p ∈ ps, 0 ≤ p.2 ∧ p.2 ≤ 999999999) ∧ Draw H2 d l c ∧ Keep (dF d l) H1 H2)
      ⟨[], [], upd_same, .nil, by simp, by simp, D1.same (same_new nB), Keep.rfl'.new nB⟩ (fun i H2 _ ⟨_, _, _, _, _, _, _, k2⟩ => SqT.of (k2 _ _ ea1 (D.offT ea))) ?_ ?_⟩
    · rintro i x H2 hx2 ⟨vs, ps, eB, tr, hps, hv, D2, K2⟩
      obtain ⟨z, hz, rfl⟩ := int_at hx2
      have hil := (List.getElem?_eq_some_iff.mp hz).1
      refine ⟨rfl, _, rfl, _, rfl, _, rfl, d, l, c, b, _, rfl, D2, K2 _ _ eb1 (D.off nb), ?_, ?_, ?_, fun k y H3 hy D3 K3 => ⟨by show 2 ≤ sizeLine; decide, fun u nu => ?_⟩⟩
      · obtain ⟨xl2, el2⟩ := D.l_some
        exact (ne_of_none el2 nb).symm
      · exact fun z => mb.1 (by simpa using z)
      · rw [List.length_map]
        have := mb.2.1
        omega
      obtain ⟨y, hy2, rfl⟩ := int_at hy
      have hy3 := mb.2.2 y (List.mem_of_getElem? hy2)
      have eB3 := K3 _ _ eB (D1.off nB)
      have tp : Tups H2 (upd H3 u (.tup [.int z, .int y])) := (D2.tups K3).trans (Tups.new nu)
      have tb : Tups (upd H3 u (.tup [.int z, .int y])) (upd (upd H3 u (.tup [.int z, .int y])) B (.lst (vs ++ [.ref u]))) := Tups.put (same_new nu _ _ eB3) (fun _ z => by cases z)
      refine ⟨vs, same_new nu _ _ eB3, ?_, vs ++ [.ref u], ps ++ [(z, y)], upd_same, ?_, ?_, ?_, ?_, ?_⟩
      · have e1 := tr.len
        have e2 : (ps.map (·.1)).length = (hs.take i).length := by rw [hps]
        rw [List.length_map] at e1 e2
        rw [List.length_take] at e2
        exact small1000 (by omega)
      · rw [List.map_append]
        refine TrAll.snoc (tr.mono (tp.trans tb)) (Tr.mono tb _ (.tup upd_same (.cons (.int z) (.cons (.int y) .nil))))
      · rw [List.map_append, hps, List.take_add_one, hz]
        rfl
      · intro p hp
        rcases List.mem_append.mp hp with h | h
        · exact hv p h
        · simp at h
          rw [h]
          exact hy3
      · refine (D3.same (same_new nu)).keep (F := fun b => b = B) (Keep.rfl'.put rfl) (fun z => D1.off nB (.inl z.symm)) (fun z => D1.off nB (.inr z.symm)) (fun z => ?_)
        obtain ⟨⟨_, _, _, _, _, _, e3⟩, _⟩ := id D1
        exact ne_of_none e3 nB z
      · exact ((K2.trans K3).new nu).put' nB
    · rintro H2 ⟨vs, ps, eB, tr, hps, hv, D2, K2⟩
      rw [List.length_map, List.take_of_length_le (Nat.le_refl _)] at hps
      refine ⟨B, _, rfl, .inl ⟨SqL.of eB, fun u nu => ?_⟩⟩
      refine q ps (.ref u) _ hps hv (.tup upd_same (tr.mono (Tups.new nu))) (D2.same (same_new nu)) ((K0.trans K2).new nu)
theorem rep_flat (h : Int) : ∀ n : Nat, (List.replicate n [V.int h]).flatten = (List.replicate n h).map V.int
  | 0 => rfl
  | n + 1 => by
    rw [List.replicate_succ, List.flatten_cons, rep_flat h n, List.replicate_succ, List.map_cons]
    rfl
theorem most_at {s : Nat} (hs : s ≤ 4) {k : Nat} {x : V} (h : ([.int 1, .int 1, .int 2, .int 3, .int ((s : Int) + 1), .int ((s : Int) + 2), .int (2 * (s : Int) + 2)] : List V)[k]? = some x) : ∃ m : Int, x = .int m ∧ 1 ≤ m ∧ m ≤ 10 := by
  match k, h with
  | 0, h => simp at h; exact ⟨_, h.symm, by omega, by omega⟩
  | 1, h => simp at h; exact ⟨_, h.symm, by omega, by omega⟩
  | 2, h => simp at h; exact ⟨_, h.symm, by omega, by omega⟩
  | 3, h => simp at h; exact ⟨_, h.symm, by omega, by omega⟩
  | 4, h => simp at h; exact ⟨_, h.symm, by omega, by omega⟩
  | 5, h => simp at h; exact ⟨_, h.symm, by omega, by omega⟩
  | 6, h => simp at h; exact ⟨_, h.symm, by omega, by omega⟩
  | i + 7, h => simp at h
def spBursts : Sp := fun vs H Q _ => ∃ (d l c a : Addr) (hs : List Int) (many : Nat), vs = [.ref d, .ref a, .int many] ∧ Draw H d l c ∧ H a = some (.lst (hs.map V.int)) ∧ a ≠ l ∧ hs ≠ [] ∧ hs.length ≤ 4 ∧ many ≤ 5 ∧
  ∀ (fs : List Int) (p : Addr) (H' : Hp), (∀ f ∈ fs, f ∈ hs) → fs.length ≤ 200 → H p = none → H' p = some (.tup (fs.map V.int)) → Draw H' d l c → Keep (dF d l) H H' → Q (.ref p) H'
theorem ok__law_bursts (T : Tx K mg) : FnOk P w K mg base CX0 4 T.f__law_bursts.a T.f__law_bursts.d ["draw", "hands", "many"] spBursts := by
  refine T.f__law_bursts.F.ok sc__law_bursts (fun vs H Q E h => ?_) (fun cdv A outer s H vs Q E hr h => ?_)
  · obtain ⟨d, l, c, a, hs, many, rfl, _⟩ := h
    rfl
  · obtain ⟨d, l, c, a, hs, many, rfl, D, ea, nal, hne, hle, hm, q⟩ := h
    have oa : ¬ dF d l a := fun z => by
      obtain ⟨kvs, ed⟩ := D.d_some
      exact z.elim (ne_of ea ed (by intro z; cases z)) nal
    refine ⟨_, (pss_cons (ps_par (i := 3) (j := 4) rfl sc__law_bursts.nd rfl rfl (by decide) rfl rfl (pa_cons (pe_lst pa_nil) (pa_cons (pe_callB (k_len (K := K) rfl) (by rfl) T.n_len PySem.boot_len (pa_cons (pv 1) pa_nil)) pa_nil)) rfl)
      (pss_cons (ps_for PassesOwn.never rfl (pi_range1 (by rfl) T.n_range (pa_cons (pv 2) pa_nil)) (pg_name (i := 5) sc__law_bursts.nd rfl (.inl rfl))
        (pss_cons (ps_set (i := 6) sc__law_bursts.nd rfl (.inl rfl) (pe_call (ok__law_pick T) (hr.mono (by decide)) (by rfl) T.f__law_pick.g T.f__law_pick.F.kp T.f__law_pick.b .nil pass0 (pa_cons (pv 0) (pa_cons (pv 1) pa_nil))))
        (pss_cons (ps_set (i := 7) sc__law_bursts.nd rfl (.inl rfl) (pe_call (ok__law_pick T) (hr.mono (by decide)) (by rfl) T.f__law_pick.g T.f__law_pick.F.kp T.f__law_pick.b .nil pass0 (pa_cons (pv 0) (pa_cons (pe_lst (pa_cons pe_int (pa_cons pe_int (pa_cons pe_int (pa_cons pe_int (pa_cons (pe_op op_add (pv 4) pe_int) (pa_cons (pe_op op_add (pv 4) pe_int) (pa_cons (pe_op op_add (pe_op op_mul pe_int (pv 4)) pe_int) pa_nil)))))))) pa_nil))))
        (pss_one (ps_set (i := 3) sc__law_bursts.nd rfl (.inl rfl) (pe_op op_cat (pv 3) (pe_op op_rep (pe_lst (pa_cons (pv 6) pa_nil)) (pe_op op_add pe_int (pe_call (ok__law_take T) (hr.mono (by decide)) (by rfl) T.f__law_take.g T.f__law_take.F.kp T.f__law_take.b .nil pass0 (pa_cons (pv 0) (pa_cons (pv 7) pa_nil)))))))))))
      (pss_one (ps_ret (pe_callTy (k_tupOf (K := K) rfl) (by rfl) T.n_tuple boot_tuple (pa_cons (pv 3) pa_nil)))))), ?_⟩
    refine ⟨Nat.zero_le _, fun p0 np0 => ⟨_, rfl, a, _, rfl, .inl (SqL.of (same_new np0 _ _ ea)), _, _, rfl, ?_⟩⟩
    refine ⟨_, rfl, many, rfl, by omega, by omega, for_range (lo := 0) (n := many) (fun i σ H2 => ∃ (pf : Addr) (fs : List Int) (y5 y6 y7 : Option V), σ = [some (.ref d), some (.ref a), some (.int many), some (.ref pf), some (.int (hs.map V.int).length), y5, y6, y7] ∧
        H2 pf = some (.lst (fs.map V.int)) ∧ (∀ f ∈ fs, f ∈ hs) ∧ fs.length ≤ 20 * i ∧ H pf = none ∧ Draw H2 d l c ∧ Keep (dF d l) H H2)
      ⟨p0, [], none, none, none, rfl, upd_same, by simp, by simp, np0, D.same (same_new np0), Keep.rfl'.new np0⟩ ?_ ?_⟩
    · rintro i σ H2 hi ⟨pf, fs, y5, y6, y7, rfl, ef, hf, hl, npf, D2, K2⟩
      -- hand
      refine ⟨_, rfl, _, rfl, d, l, c, a, _, rfl, D2, K2 _ _ ea oa, nal, fun z => hne (by simpa using z), by rw [List.length_map]; omega, fun k x H3 hx D3 K3 => ?_⟩
      obtain ⟨hd, hhd, rfl⟩ := int_at hx
      -- most
      refine ⟨_, rfl, _, rfl, _, _, rfl, rfl, _, rfl, _, _, rfl, rfl, _, rfl, _, _, rfl, rfl, .inl ⟨by decide, by decide⟩, _, _, rfl, rfl, by show 7 ≤ sizeLine; decide, fun q1 nq1 => ?_⟩
      have s3 := same_new (o := .lst [.int 1, .int 1, .int 2, .int 3, .int (((hs.map V.int).length : Int) + 1), .int (((hs.map V.int).length : Int) + 2), .int (2 * ((hs.map V.int).length : Int) + 2)]) nq1
      have D3' := D3.same s3
      obtain ⟨xl, el⟩ := D3.l_some
      refine ⟨d, l, c, q1, _, rfl, D3', upd_same, (ne_of_none el nq1).symm, by simp, by simp, fun k2 x2 H4 hx2 D4 K4 => ?_⟩
      obtain ⟨m, rfl, m1, m10⟩ := most_at (by rw [List.length_map]; exact hle) hx2
      have K24 : Keep (dF d l) H2 H4 := (K3.trans (.of s3)).trans K4
      -- found
      refine ⟨_, rfl, _, rfl, by show 1 ≤ sizeLine; decide, fun q2 nq2 => ⟨_, rfl, _, rfl, d, l, c, m, rfl, D4.same (same_new nq2), by omega, by omega, fun t H5 t0 t1 D5 K5 => ?_⟩⟩
      have o2 := D4.off nq2
      have of : ¬ dF d l pf := D.off npf
      have e2 : H5 q2 = some (.lst [.int hd]) := K5 _ _ upd_same o2
      have e3 : H5 pf = some (.lst (fs.map V.int)) := K5 _ _ (same_new nq2 _ _ (K24 _ _ ef of)) of
      refine ⟨_, _, rfl, rfl, q2, _, _, rfl, rfl, e2, by omega, by omega, ?_, fun q3 nq3 => ?_⟩
      · have : (1 + t).toNat ≤ 10 := by omega
        have h1 : ([V.int hd] : List V).length = 1 := rfl
        rw [h1, Nat.one_mul]
        exact Nat.le_of_lt (small1000 (by omega))
      rw [rep_flat]
      refine ⟨pf, q3, fs.map V.int, _, rfl, rfl, same_new nq3 _ _ e3, upd_same, ?_, fun q4 nq4 => ?_⟩
      · rw [List.length_map, List.length_map, List.length_replicate]
        exact Nat.le_of_lt (small1000 (by omega))
      have D6 := (D5.same (same_new (o := .lst ((List.replicate (1 + t).toNat hd).map V.int)) nq3))
      have K6 : Keep (dF d l) H (upd H5 q3 (.lst ((List.replicate (1 + t).toNat hd).map V.int))) := ((K2.trans ((K24.new nq2).trans K5)).new nq3)
      refine ⟨q4, fs ++ List.replicate (1 + t).toNat hd, _, _, _, rfl, ?_, ?_, ?_, K6.free nq4 (D6.off nq4), D6.same (same_new nq4), K6.new nq4⟩
      · rw [upd_same, List.map_append]
      · intro f hf2
        rcases List.mem_append.mp hf2 with h | h
        · exact hf f h
        · rw [(List.mem_replicate.mp h).2]
          exact List.mem_of_getElem? hhd
      · rw [List.length_append, List.length_replicate]
        omega
    · rintro σ H2 ⟨pf, fs, y5, y6, y7, rfl, ef, hf, hl, npf, D2, K2⟩
      refine ⟨_, rfl, pf, _, rfl, .inl ⟨SqL.of ef, fun u nu => ?_⟩⟩
      exact q fs u _ hf (by omega) (K2.free nu (D2.off nu)) upd_same (D2.same (same_new nu)) (K2.new nu)
end
end Wl


set_option maxRecDepth 100000
/-! Cells in the heap: places by roles. -/
namespace Wl
open PySem PySem.Spec PyProof.Rows L2
def fset {α : Type} (f : Int → α) (h : Int) (x : α) : Int → α := fun g => if g = h then x else f g
theorem fset_same {α : Type} {f : Int → α} {h : Int} {x : α} : fset f h x h = x := if_pos rfl
theorem fset_ne {α : Type} {f : Int → α} {h g : Int} {x : α} (n : g ≠ h) : fset f h x g = f g := if_neg n
/-- an entry of a cell: the pair's place and its level -/
abbrev En := Option (Addr × Int)
def enV : En → V
  | none => .non
  | some (p, _) => .ref p
structure CS where
  vw : Int → List (V × Nat)
  nx : Int → Int
  fd : Int → List En
  wr : Int → Bool
  cl : Nat → Int → En
  dn : List Int
/-- where all stands -/
structure Lay where
  p : Addr
  dx : Addr
  row : V
  av : Addr
  ac : Addr
  an : Addr
  af : Addr
  aw : Addr
  ad : Addr
  vl : Int → Addr
  fl : Int → Addr
  ct : Nat → Addr
inductive Rl where
  | ins | av | ac | an | af | aw | ad
  | vl (h : Int) | fl (h : Int) | ct (t : Nat)
  deriving DecidableEq
def Lay.at (L : Lay) : Rl → Addr
  | .ins => L.p
  | .av => L.av
  | .ac => L.ac
  | .an => L.an
  | .af => L.af
  | .aw => L.aw
  | .ad => L.ad
  | .vl h => L.vl h
  | .fl h => L.fl h
  | .ct t => L.ct t
def Rl.ok (hs : List Int) (R : Nat) : Rl → Prop
  | .vl h => h ∈ hs
  | .fl h => h ∈ hs
  | .ct t => t < R
  | _ => True
/-- a dict with just the hands as keys -/
structure DictOf (hs : List Int) (kvs : List (Key × V)) (f : Int → V) : Prop where
  keys : kvs.map (·.1) = hs.map Sum.inl
  val : ∀ h ∈ hs, valV kvs (.inl h : Key) = some (f h)
/-- a dict with some hands as keys -/
structure DictIn (hs : List Int) (kvs : List (Key × V)) (f : Int → Option V) : Prop where
  nd : (kvs.map (·.1)).Nodup
  sub : ∀ k ∈ kvs.map (·.1), ∃ h ∈ hs, k = .inl h
  val : ∀ h, valV kvs (.inl h : Key) = f h
def cFlds (L : Lay) (n R : Nat) : List (Str × V) := [("row", L.row), ("rounds", .int R), ("many", .int n), ("_views", .ref L.av), ("_cells", .ref L.ac), ("_next", .ref L.an), ("_found", .ref L.af), ("_writing", .ref L.aw), ("_done", .ref L.ad)]
def Good (C : Addr) (hs : List Int) (R : Nat) (L : Lay) (S : CS) : Rl → Option HO → Prop
  | .ins => fun o => o = some (.ins C L.dx (cFlds L hs.length R))
  | .av => fun o => ∃ kvs, o = some (.dK kvs) ∧ DictOf hs kvs fun h => .ref (L.vl h)
  | .ac => fun o => o = some (.lst ((List.range R).map fun t => V.ref (L.ct t)))
  | .an => fun o => ∃ kvs, o = some (.dK kvs) ∧ DictOf hs kvs fun h => .int (S.nx h)
  | .af => fun o => ∃ kvs, o = some (.dK kvs) ∧ DictOf hs kvs fun h => .ref (L.fl h)
  | .aw => fun o => ∃ kvs, o = some (.dK kvs) ∧ DictOf hs kvs fun h => .bl (S.wr h)
  | .ad => fun o => o = some (.lst (S.dn.map V.int))
  | .vl h => fun o => o = some (.lst ((S.vw h).map (·.1)))
  | .fl h => fun o => o = some (.lst ((S.fd h).map enV))
  | .ct t => fun o => ∃ kvs, o = some (.dK kvs) ∧ DictIn hs kvs fun h => (S.cl t h).map fun e => V.ref e.1
/-- an entry's pair stands -/
def EnAt (H : Hp) (e : En) : Prop := ∀ x, e = some x → ∃ v, H x.1 = some (.tup [v, .int x.2])
def VwAt (H : Hp) (e : V × Nat) : Prop := ∃ p xs, e.1 = .ref p ∧ H p = some (.tup xs) ∧ xs.length = e.2
structure CellsAt (C : Addr) (H : Hp) (ps : List (Int × Int)) (R : Nat) (L : Lay) (S : CS) : Prop where
  good : ∀ r, Rl.ok (ps.map (·.1)) R r → Good C (ps.map (·.1)) R L S r (H (L.at r))
  inj : ∀ r r', Rl.ok (ps.map (·.1)) R r → Rl.ok (ps.map (·.1)) R r' → L.at r = L.at r' → r = r'
  cl : ∀ t h, EnAt H (S.cl t h)
  fd : ∀ h, ∀ e ∈ S.fd h, EnAt H e
  vw : ∀ h ∈ ps.map (·.1), ∀ m e, (S.vw h)[m + 1]? = some e → VwAt H e
  v0 : ∀ h ∈ ps.map (·.1), S.vw h ≠ [] ∧ (S.vw h).length ≤ R + 1
  row : Tr H L.row (rowD ps)
  rok : RowOk ps
  le : ps.length ≤ 4
  rle : R ≤ 6
/-- the places of cells -/
def Ftp (hs : List Int) (R : Nat) (L : Lay) : Addr → Prop := fun b => ∃ r, Rl.ok hs R r ∧ L.at r = b
theorem EnAt.mono {H H' : Hp} (t : Tups H H') {e : En} (h : EnAt H e) : EnAt H' e := fun x hx => let ⟨v, ev⟩ := h x hx; ⟨v, t _ _ ev⟩
theorem VwAt.mono {H H' : Hp} (t : Tups H H') {e : V × Nat} (h : VwAt H e) : VwAt H' e := let ⟨p, xs, a, b, c⟩ := h; ⟨p, xs, a, t _ _ b, c⟩
theorem Good.some {C : Addr} {hs : List Int} {R : Nat} {L : Lay} {S : CS} : ∀ {r : Rl} {o : Option HO}, Good C hs R L S r o → ∃ u, o = some u ∧ ∀ xs, u ≠ .tup xs
  | .ins, _, h => ⟨_, h, fun _ z => nomatch z⟩
  | .av, _, ⟨_, h, _⟩ => ⟨_, h, fun _ z => nomatch z⟩
  | .ac, _, h => ⟨_, h, fun _ z => nomatch z⟩
  | .an, _, ⟨_, h, _⟩ => ⟨_, h, fun _ z => nomatch z⟩
  | .af, _, ⟨_, h, _⟩ => ⟨_, h, fun _ z => nomatch z⟩
  | .aw, _, ⟨_, h, _⟩ => ⟨_, h, fun _ z => nomatch z⟩
  | .ad, _, h => ⟨_, h, fun _ z => nomatch z⟩
  | .vl _, _, h => ⟨_, h, fun _ z => nomatch z⟩
  | .fl _, _, h => ⟨_, h, fun _ z => nomatch z⟩
  | .ct _, _, ⟨_, h, _⟩ => ⟨_, h, fun _ z => nomatch z⟩
section
variable {C : Addr} {H H' : Hp} {ps : List (Int × Int)} {R : Nat} {L : Lay} {S : CS}
theorem CellsAt.tups (c : CellsAt C H ps R L S) (k : Keep (Ftp (ps.map (·.1)) R L) H H') : Tups H H' := fun b xs e => k b _ e fun z => by
  obtain ⟨r, hr, rfl⟩ := z
  obtain ⟨u, hu, nu⟩ := (c.good r hr).some
  rw [e] at hu
  cases hu
  exact nu _ rfl
/-- cells stand through what does not touch them -/
theorem CellsAt.keep {F : Addr → Prop} (c : CellsAt C H ps R L S) (k : Keep F H H') (t : Tups H H') (n : ∀ b, F b → ¬ Ftp (ps.map (·.1)) R L b) : CellsAt C H' ps R L S where
  good := fun r hr => by
    have g := c.good r hr
    obtain ⟨u, hu, _⟩ := g.some
    rw [k _ _ hu fun z => n _ z ⟨r, hr, rfl⟩, ← hu]
    exact g
  inj := c.inj
  cl := fun t' h => (c.cl t' h).mono t
  fd := fun h e he => (c.fd h e he).mono t
  vw := fun h hh m e he => (c.vw h hh m e he).mono t
  v0 := c.v0
  row := c.row.mono t
  rok := c.rok
  le := c.le
  rle := c.rle
theorem CellsAt.same (c : CellsAt C H ps R L S) (s : Same H H') : CellsAt C H' ps R L S := c.keep (F := fun _ => False) (.of s) (same_tups s) fun _ h => h.elim
theorem CellsAt.off (c : CellsAt C H ps R L S) {q : Addr} (h : H q = none) : ¬ Ftp (ps.map (·.1)) R L q := fun ⟨r, hr, e⟩ => by
  obtain ⟨u, hu, _⟩ := (c.good r hr).some
  rw [e, h] at hu
  cases hu
/-- one place is written -/
theorem CellsAt.put {S' : CS} {r : Rl} {o : HO} (c : CellsAt C H ps R L S) (hr : Rl.ok (ps.map (·.1)) R r) (g : Good C (ps.map (·.1)) R L S' r (some o))
    (oth : ∀ r', r' ≠ r → ∀ x, Good C (ps.map (·.1)) R L S r' x → Good C (ps.map (·.1)) R L S' r' x)
    (hcl : ∀ t h, EnAt H (S'.cl t h)) (hfd : ∀ h, ∀ e ∈ S'.fd h, EnAt H e) (hvw : ∀ h ∈ ps.map (·.1), ∀ m e, (S'.vw h)[m + 1]? = some e → VwAt H e)
    (hv0 : ∀ h ∈ ps.map (·.1), S'.vw h ≠ [] ∧ (S'.vw h).length ≤ R + 1) : CellsAt C (upd H (L.at r) o) ps R L S' := by
  obtain ⟨u, hu, nu⟩ := (c.good r hr).some
  have t : Tups H (upd H (L.at r) o) := Tups.put hu nu
  refine ⟨fun r' hr' => ?_, c.inj, fun t' h => (hcl t' h).mono t, fun h e he => (hfd h e he).mono t, fun h hh m e he => (hvw h hh m e he).mono t, hv0, c.row.mono t, c.rok, c.le, c.rle⟩
  by_cases e : r' = r
  · subst e
    rw [upd_same]
    exact g
  · rw [upd_ne (fun z => e (c.inj _ _ hr' hr z))]
    exact oth r' e _ (c.good r' hr')
end
/-! ### dicts by hands -/
theorem putK_keys {kvs : List (Key × V)} {k : Key} {v : V} (h : k ∈ kvs.map (·.1)) : (putK kvs k v).map (·.1) = kvs.map (·.1) := by
  have h2 : (kvs.any fun kv => decide (kv.1 = k)) = true := by
    rw [List.any_eq_true]
    obtain ⟨p, hp, e⟩ := List.mem_map.mp h
    exact ⟨p, hp, decide_eq_true e⟩
  unfold putK
  rw [if_pos h2, List.map_map]
  refine List.map_congr_left fun p _ => ?_
  show (if p.1 = k then (p.1, v) else p).1 = p.1
  split <;> rfl
theorem DictOf.mem {hs : List Int} {kvs : List (Key × V)} {f : Int → V} (d : DictOf hs kvs f) {h : Int} (hh : h ∈ hs) : (Sum.inl h : Key) ∈ kvs.map (·.1) := by
  rw [d.keys]
  exact List.mem_map_of_mem hh
theorem DictOf.len {hs : List Int} {kvs : List (Key × V)} {f : Int → V} (d : DictOf hs kvs f) : kvs.length = hs.length := by
  have := congrArg List.length d.keys
  rwa [List.length_map, List.length_map] at this
theorem DictOf.put {hs : List Int} {kvs : List (Key × V)} {f : Int → V} (d : DictOf hs kvs f) {h : Int} (hh : h ∈ hs) (v : V) : DictOf hs (putK kvs (.inl h : Key) v) (fset f h v) := by
  refine ⟨by rw [putK_keys (d.mem hh), d.keys], fun g hg => ?_⟩
  rw [valV_put]
  by_cases e : g = h
  · subst e
    rw [if_pos rfl, fset_same]
  · rw [if_neg (fun z => e (Sum.inl.inj z)), fset_ne e]
    exact d.val g hg
theorem DictIn.len {hs : List Int} {kvs : List (Key × V)} {f : Int → Option V} (d : DictIn hs kvs f) (hn : hs.length ≤ 4) : kvs.length ≤ 4 := by
  have h1 : (kvs.map (·.1)).length ≤ (hs.map (Sum.inl : Int → Key)).length := by
    refine List.Nodup.length_le_of_subset d.nd fun k hk => ?_
    obtain ⟨h, hh, rfl⟩ := d.sub k hk
    exact List.mem_map_of_mem hh
  rw [List.length_map, List.length_map] at h1
  omega
end Wl
namespace Wl
open PySem PySem.Spec PyProof.Rows L2
section
variable {L : Lay} {n R : Nat}
theorem lk_row : (cFlds L n R).lookup ("row" : Str) = some L.row := by rfl
theorem lk_rounds : (cFlds L n R).lookup ("rounds" : Str) = some (V.int R) := by rfl
theorem lk_many : (cFlds L n R).lookup ("many" : Str) = some (V.int n) := by rfl
theorem lk__views : (cFlds L n R).lookup ("_views" : Str) = some (V.ref L.av) := by rfl
theorem lk__cells : (cFlds L n R).lookup ("_cells" : Str) = some (V.ref L.ac) := by rfl
theorem lk__next : (cFlds L n R).lookup ("_next" : Str) = some (V.ref L.an) := by rfl
theorem lk__found : (cFlds L n R).lookup ("_found" : Str) = some (V.ref L.af) := by rfl
theorem lk__writing : (cFlds L n R).lookup ("_writing" : Str) = some (V.ref L.aw) := by rfl
theorem lk__done : (cFlds L n R).lookup ("_done" : Str) = some (V.ref L.ad) := by rfl
end
section
variable {C : Addr} {H H' : Hp} {ps : List (Int × Int)} {R : Nat} {L : Lay} {S : CS}
theorem CellsAt.ins (c : CellsAt C H ps R L S) : H L.p = some (.ins C L.dx (cFlds L (ps.map (·.1)).length R)) := c.good .ins True.intro
theorem CellsAt.hand (c : CellsAt C H ps R L S) {h : Int} (hh : h ∈ ps.map (·.1)) : 0 ≤ h ∧ h ≤ 3 := by
  obtain ⟨p, hp, rfl⟩ := List.mem_map.mp hh
  have := c.rok.rg p hp
  exact ⟨this.1, this.2.1⟩
/-- self._x[hand] -/
theorem CellsAt.gv (c : CellsAt C H ps R L S) {h : Int} (hh : h ∈ ps.map (·.1)) : DGet H L.av (.int h) (some (.ref (L.vl h))) := by
  obtain ⟨kvs, e, d⟩ := c.good .av True.intro
  exact dget (k := Sum.inl h) e (d.val h hh)
theorem CellsAt.gn (c : CellsAt C H ps R L S) {h : Int} (hh : h ∈ ps.map (·.1)) : DGet H L.an (.int h) (some (.int (S.nx h))) := by
  obtain ⟨kvs, e, d⟩ := c.good .an True.intro
  exact dget (k := Sum.inl h) e (d.val h hh)
theorem CellsAt.gf (c : CellsAt C H ps R L S) {h : Int} (hh : h ∈ ps.map (·.1)) : DGet H L.af (.int h) (some (.ref (L.fl h))) := by
  obtain ⟨kvs, e, d⟩ := c.good .af True.intro
  exact dget (k := Sum.inl h) e (d.val h hh)
theorem CellsAt.gw (c : CellsAt C H ps R L S) {h : Int} (hh : h ∈ ps.map (·.1)) : DGet H L.aw (.int h) (some (.bl (S.wr h))) := by
  obtain ⟨kvs, e, d⟩ := c.good .aw True.intro
  exact dget (k := Sum.inl h) e (d.val h hh)
theorem CellsAt.lv (c : CellsAt C H ps R L S) {h : Int} (hh : h ∈ ps.map (·.1)) : H (L.vl h) = some (.lst ((S.vw h).map (·.1))) := c.good (.vl h) hh
theorem CellsAt.lf (c : CellsAt C H ps R L S) {h : Int} (hh : h ∈ ps.map (·.1)) : H (L.fl h) = some (.lst ((S.fd h).map enV)) := c.good (.fl h) hh
theorem CellsAt.lc (c : CellsAt C H ps R L S) : H L.ac = some (.lst ((List.range R).map fun t => V.ref (L.ct t))) := c.good .ac True.intro
theorem CellsAt.ld (c : CellsAt C H ps R L S) : H L.ad = some (.lst (S.dn.map V.int)) := c.good .ad True.intro
end
end Wl
namespace Wl
open PySem PySem.Spec PyProof.Rows L2
/-- from one heap and places to others: all but the cells' own stays, and their places are old or new -/
structure Moved (hs : List Int) (R : Nat) (H : Hp) (L : Lay) (H' : Hp) (L' : Lay) : Prop where
  keep : Keep (Ftp hs R L) H H'
  foot : ∀ b, Ftp hs R L' b → Ftp hs R L b ∨ H b = none
  free : ∀ b, H' b = none → H b = none
section
variable {hs : List Int} {R : Nat} {H H1 H2 : Hp} {L L1 L2 : Lay}
theorem Moved.rfl' : Moved hs R H L H L := ⟨Keep.rfl', fun _ h => .inl h, fun _ h => h⟩
theorem Moved.trans (a : Moved hs R H L H1 L1) (b : Moved hs R H1 L1 H2 L2) : Moved hs R H L H2 L2 := by
  refine ⟨fun x o e n => b.keep x o (a.keep x o e n) fun z => ?_, fun x h => ?_, fun x h => a.free x (b.free x h)⟩
  · rcases a.foot x z with y | y
    · exact n y
    · rw [y] at e; cases e
  · rcases b.foot x h with y | y
    · exact a.foot x y
    · exact .inr (a.free x y)
theorem Moved.of (s : Same H H1) : Moved hs R H L H1 L := ⟨.of s, fun _ h => .inl h, fun _ h => s.free h⟩
theorem upd_free {H : Hp} {p b : Addr} {o : HO} (h : upd H p o b = none) : H b = none := by
  have : b ≠ p := fun z => by rw [z, upd_same] at h; cases h
  rwa [upd_ne this] at h
theorem Moved.new (m : Moved hs R H L H1 L1) {p : Addr} {o : HO} (h : H1 p = none) : Moved hs R H L (upd H1 p o) L1 := m.trans (.of (same_new h))
theorem Moved.put {r : Rl} {o : HO} (hr : Rl.ok hs R r) : Moved hs R H L (upd H (L.at r) o) L := ⟨Keep.rfl'.put ⟨r, hr, rfl⟩, fun _ h => .inl h, fun _ h => upd_free h⟩
end
section
variable {C : Addr} {H H' : Hp} {ps : List (Int × Int)} {R : Nat} {L : Lay} {S : CS}
theorem CellsAt.setN (c : CellsAt C H ps R L S) {h : Int} (hh : h ∈ ps.map (·.1)) (x : Int) :
    ∃ H1, DPut H L.an (.int h) (.int x) H1 ∧ CellsAt C H1 ps R L { S with nx := fset S.nx h x } ∧ Moved (ps.map (·.1)) R H L H1 L := by
  obtain ⟨kvs, e, d⟩ := c.good .an True.intro
  refine ⟨upd H L.an (.dK (putK kvs (.inl h) (.int x))), dput (k := Sum.inl h) e (by rw [d.len, List.length_map]; exact small1000 (Nat.le_trans c.le (by decide))) rfl, ?_, Moved.put (r := .an) True.intro⟩
  refine c.put (r := .an) True.intro ⟨_, rfl, ?_⟩ (fun r' ne y g => ?_) c.cl c.fd c.vw c.v0
  · have := d.put hh (.int x)
    refine ⟨this.keys, fun g hg => (this.val g hg).trans ?_⟩
    unfold fset
    by_cases z : g = h
    · simp [z]
    · simp [z]
  · cases r' <;> first | exact absurd rfl ne | exact g
theorem CellsAt.setW (c : CellsAt C H ps R L S) {h : Int} (hh : h ∈ ps.map (·.1)) (x : Bool) :
    ∃ H1, DPut H L.aw (.int h) (.bl x) H1 ∧ CellsAt C H1 ps R L { S with wr := fset S.wr h x } ∧ Moved (ps.map (·.1)) R H L H1 L := by
  obtain ⟨kvs, e, d⟩ := c.good .aw True.intro
  refine ⟨upd H L.aw (.dK (putK kvs (.inl h) (.bl x))), dput (k := Sum.inl h) e (by rw [d.len, List.length_map]; exact small1000 (Nat.le_trans c.le (by decide))) rfl, ?_, Moved.put (r := .aw) True.intro⟩
  refine c.put (r := .aw) True.intro ⟨_, rfl, ?_⟩ (fun r' ne y g => ?_) c.cl c.fd c.vw c.v0
  · have := d.put hh (.bl x)
    refine ⟨this.keys, fun g hg => (this.val g hg).trans ?_⟩
    unfold fset
    by_cases z : g = h
    · simp [z]
    · simp [z]
  · cases r' <;> first | exact absurd rfl ne | exact g
/-- a new empty list of what a hand found, at q -/
theorem CellsAt.setF (c : CellsAt C H ps R L S) {h : Int} (hh : h ∈ ps.map (·.1)) {q : Addr} (eq : H q = some (.lst [])) (nq : ¬ Ftp (ps.map (·.1)) R L q) :
    ∃ H1, DPut H L.af (.int h) (.ref q) H1 ∧ CellsAt C H1 ps R { L with fl := fset L.fl h q } { S with fd := fset S.fd h [] } ∧ Keep (Ftp (ps.map (·.1)) R L) H H1 ∧
      (∀ b, Ftp (ps.map (·.1)) R { L with fl := fset L.fl h q } b → Ftp (ps.map (·.1)) R L b ∨ b = q) ∧ ∀ b, H1 b = none → H b = none := by
  obtain ⟨kvs, e, d⟩ := c.good .af True.intro
  have nf : q ≠ L.af := fun z => nq ⟨.af, True.intro, z.symm⟩
  have atq : ∀ r, Rl.ok (ps.map (·.1)) R r → (r = .fl h ∧ Lay.at { L with fl := fset L.fl h q } r = q) ∨ (r ≠ .fl h ∧ Lay.at { L with fl := fset L.fl h q } r = L.at r) := fun r hr => by
    cases r with
    | fl g =>
      by_cases z : g = h
      · subst z
        exact .inl ⟨rfl, fset_same⟩
      · exact .inr ⟨fun w => z (Rl.fl.inj w), fset_ne z⟩
    | _ => exact .inr ⟨(fun w => nomatch w), rfl⟩
  refine ⟨upd H L.af (.dK (putK kvs (.inl h) (.ref q))), dput (k := Sum.inl h) e (by rw [d.len, List.length_map]; exact small1000 (Nat.le_trans c.le (by decide))) rfl, ?_, Keep.rfl'.put ⟨.af, True.intro, rfl⟩, fun b hb => ?_, fun b hb => upd_free hb⟩
  · have t : Tups H (upd H L.af (.dK (putK kvs (.inl h) (.ref q)))) := Tups.put e fun _ z => nomatch z
    have d2 := d.put hh (.ref q)
    refine ⟨fun r hr => ?_, fun r r' hr hr' z => ?_, fun t' g => (c.cl t' g).mono t, fun g e he => ?_, fun g hg m e he => (c.vw g hg m e he).mono t, c.v0, c.row.mono t, c.rok, c.le, c.rle⟩
    · rcases atq r hr with ⟨rfl, ea⟩ | ⟨ne, ea⟩
      · rw [ea, upd_ne nf, eq]
        show some (HO.lst []) = some (.lst ((fset S.fd h [] h).map enV))
        rw [fset_same]
        rfl
      · rw [ea]
        by_cases ra : r = .af
        · subst ra
          show ∃ kvs', (upd H L.af _) L.af = some (.dK kvs') ∧ _
          rw [upd_same]
          refine ⟨_, rfl, d2.keys, fun g hg => (d2.val g hg).trans ?_⟩
          show _ = some (V.ref (fset L.fl h q g))
          unfold fset
          by_cases z : g = h
          · simp [z]
          · simp [z]
        · have ne2 : L.at r ≠ L.af := fun z => ra (c.inj r .af hr True.intro z)
          rw [upd_ne ne2]
          have g := c.good r hr
          cases r with
          | fl g' =>
            have ng : g' ≠ h := fun w => ne (by rw [w])
            show _ = some (HO.lst ((fset S.fd h [] g').map enV))
            rw [fset_ne ng]
            exact g
          | af => exact absurd rfl ra
          | _ => exact g
    · rcases atq r hr with ⟨rfl, ea⟩ | ⟨ne, ea⟩ <;> rcases atq r' hr' with ⟨rfl, ea'⟩ | ⟨ne', ea'⟩
      · rfl
      · rw [ea, ea'] at z
        exact absurd ⟨r', hr', z.symm⟩ nq
      · rw [ea, ea'] at z
        exact absurd ⟨r, hr, z⟩ nq
      · rw [ea, ea'] at z
        exact c.inj _ _ hr hr' z
    · by_cases z : g = h
      · subst z
        rw [show ({ S with fd := fset S.fd g [] } : CS).fd g = [] from fset_same] at he
        exact absurd he (by simp)
      · rw [show ({ S with fd := fset S.fd h [] } : CS).fd g = S.fd g from fset_ne z] at he
        exact (c.fd g e he).mono t
  · obtain ⟨r, hr, rfl⟩ := hb
    rcases atq r hr with ⟨rfl, ea⟩ | ⟨ne, ea⟩
    · exact .inr ea
    · rw [ea]
      exact .inl ⟨r, hr, rfl⟩
theorem valV_none {kvs : List (Key × V)} {k : Key} (h : k ∉ kvs.map (·.1)) : valV kvs k = none := by
  cases e : valV kvs k with
  | none => rfl
  | some v => exact absurd (valV_in e) h
/-- a pair into a cell -/
theorem CellsAt.setC (c : CellsAt C H ps R L S) {h : Int} (hh : h ∈ ps.map (·.1)) {t : Nat} (ht : t < R) {p : Addr} {v : V} {l : Int} (ep : H p = some (.tup [v, .int l])) :
    ∃ H1, DPut H (L.ct t) (.int h) (.ref p) H1 ∧ CellsAt C H1 ps R L { S with cl := fun t' g => if t' = t ∧ g = h then some (p, l) else S.cl t' g } ∧ Moved (ps.map (·.1)) R H L H1 L := by
  obtain ⟨kvs, e, d⟩ := c.good (.ct t) ht
  have d4 := d.len (by rw [List.length_map]; exact c.le)
  refine ⟨upd H (L.ct t) (.dK (putK kvs (.inl h) (.ref p))), dput (k := Sum.inl h) e (small1000 (by omega)) rfl, ?_, Moved.put (r := .ct t) ht⟩
  refine c.put (r := .ct t) ht ⟨_, rfl, ?_, ?_, ?_⟩ (fun r' ne y g => ?_) ?_ c.fd c.vw c.v0
  · by_cases m : (Sum.inl h : Key) ∈ kvs.map (·.1)
    · rw [putK_keys m]
      exact d.nd
    · exact nd_putK _ d.nd (valV_none m)
  · intro k hk
    by_cases m : (Sum.inl h : Key) ∈ kvs.map (·.1)
    · rw [putK_keys m] at hk
      exact d.sub k hk
    · rw [putK_new _ (valV_none m), List.map_append] at hk
      rcases List.mem_append.mp hk with z | z
      · exact d.sub k z
      · simp at z
        exact ⟨h, hh, z⟩
  · intro g
    rw [valV_put]
    by_cases z : g = h
    · subst z
      rw [if_pos rfl]
      show _ = ((if t = t ∧ g = g then some (p, l) else S.cl t g).map fun e => V.ref e.1)
      rw [if_pos ⟨rfl, rfl⟩]
      rfl
    · rw [if_neg (fun w => z (Sum.inl.inj w)), d.val g]
      show _ = ((if t = t ∧ g = h then some (p, l) else S.cl t g).map fun e => V.ref e.1)
      rw [if_neg (fun w => z w.2)]
  · cases r' with
    | ct t' =>
      have nt : t' ≠ t := fun w => ne (by rw [w])
      obtain ⟨kvs', e', d'⟩ := g
      refine ⟨kvs', e', d'.nd, d'.sub, fun g => ?_⟩
      show _ = ((if t' = t ∧ g = h then some (p, l) else S.cl t' g).map fun e => V.ref e.1)
      rw [if_neg (fun w => nt w.1)]
      exact d'.val g
    | _ => exact g
  · intro t' g x hx
    have hx' : (if t' = t ∧ g = h then some (p, l) else S.cl t' g) = some x := hx
    by_cases z : t' = t ∧ g = h
    · rw [if_pos z] at hx'
      cases hx'
      exact ⟨v, ep⟩
    · rw [if_neg z] at hx'
      exact c.cl t' g x hx'
theorem CellsAt.addD (c : CellsAt C H ps R L S) (h : Int) : CellsAt C (upd H L.ad (.lst (S.dn.map V.int ++ [.int h]))) ps R L { S with dn := S.dn ++ [h] } := by
  refine c.put (r := .ad) True.intro (show _ = _ by rw [List.map_append]; rfl) (fun r' ne y g => ?_) c.cl c.fd c.vw c.v0
  cases r' <;> first | exact absurd rfl ne | exact g
theorem CellsAt.addF (c : CellsAt C H ps R L S) {h : Int} (hh : h ∈ ps.map (·.1)) {e : En} (he : EnAt H e) : CellsAt C (upd H (L.fl h) (.lst ((S.fd h).map enV ++ [enV e]))) ps R L { S with fd := fset S.fd h (S.fd h ++ [e]) } := by
  refine c.put (r := .fl h) hh ?_ (fun r' ne y g => ?_) c.cl ?_ c.vw c.v0
  · show _ = some (HO.lst ((fset S.fd h (S.fd h ++ [e]) h).map enV))
    rw [fset_same, List.map_append]
    rfl
  · cases r' with
    | fl g' =>
      have ng : g' ≠ h := fun w => ne (by rw [w])
      show _ = some (HO.lst ((fset S.fd h (S.fd h ++ [e]) g').map enV))
      rw [fset_ne ng]
      exact g
    | _ => exact g
  · intro g x hx
    have hx' : x ∈ fset S.fd h (S.fd h ++ [e]) g := hx
    by_cases z : g = h
    · subst z
      rw [fset_same] at hx'
      rcases List.mem_append.mp hx' with w | w
      · exact c.fd g x w
      · simp at w
        rw [w]
        exact he
    · rw [fset_ne z] at hx'
      exact c.fd g x hx'
theorem CellsAt.addV (c : CellsAt C H ps R L S) {h : Int} (hh : h ∈ ps.map (·.1)) {e : V × Nat} (he : VwAt H e) (hl : (S.vw h).length ≤ R) : CellsAt C (upd H (L.vl h) (.lst ((S.vw h).map (·.1) ++ [e.1]))) ps R L { S with vw := fset S.vw h (S.vw h ++ [e]) } := by
  refine c.put (r := .vl h) hh ?_ (fun r' ne y g => ?_) c.cl c.fd ?_ ?_
  · show _ = some (HO.lst ((fset S.vw h (S.vw h ++ [e]) h).map (·.1)))
    rw [fset_same, List.map_append]
    rfl
  · cases r' with
    | vl g' =>
      have ng : g' ≠ h := fun w => ne (by rw [w])
      show _ = some (HO.lst ((fset S.vw h (S.vw h ++ [e]) g').map (·.1)))
      rw [fset_ne ng]
      exact g
    | _ => exact g
  · intro g hg m x hx
    have hx' : (fset S.vw h (S.vw h ++ [e]) g)[m + 1]? = some x := hx
    by_cases z : g = h
    · subst z
      rw [fset_same] at hx'
      by_cases w : m + 1 < (S.vw g).length
      · rw [List.getElem?_append_left w] at hx'
        exact c.vw g hg m x hx'
      · rw [List.getElem?_append_right (by omega)] at hx'
        have : x ∈ [e] := List.mem_of_getElem? hx'
        simp at this
        rw [this]
        exact he
    · rw [fset_ne z] at hx'
      exact c.vw g hg m x hx'
  · intro g hg
    show fset S.vw h (S.vw h ++ [e]) g ≠ [] ∧ (fset S.vw h (S.vw h ++ [e]) g).length ≤ R + 1
    by_cases z : g = h
    · subst z
      rw [fset_same]
      exact ⟨by simp, by rw [List.length_append, List.length_singleton]; omega⟩
    · rw [fset_ne z]
      exact c.v0 g hg
end
end Wl
namespace Wl
open PySem PySem.Spec PyProof.Rows L2
/-- a hand goes down a level and writes -/
def CS.wrt (S : CS) (h : Int) (t : Nat) (p : Addr) : CS :=
  { S with nx := fset S.nx h (S.nx h - 1), fd := fset S.fd h [], wr := fset S.wr h false, cl := fun t' g => if t' = t ∧ g = h then some (p, S.nx h - 1) else S.cl t' g }
end Wl
namespace Wl
open PySem PySem.Spec PyProof.Rows L2
/-- a comprehension over zip of two of one length -/
theorem lc_zipK {K : PySem.W.Frag} {k1 k2 : Bool} {a b : Addr} {xs ys : List V} {g : TG} {tt : TT} {te : TE} {vs : List Nat} {σ : L2.St} {H1 : Hp} {D : Addr} {Qd : Hp → Prop} (hl : xs.length = ys.length) (Pv : Nat → Hp → Prop) (h0 : Pv 0 (upd H1 D (.lst [])))
    (hq : ∀ i H, Pv i H → Sq K k1 H a xs ∧ Sq K k2 H b ys)
    (hs : ∀ i x y T H, xs[i]? = some x → ys[i]? = some y → Pv i H → H T = none → g (.ref T) (wipe σ vs) (upd H T (.tup [x, y])) fun σ2 H2 => wipe σ2 vs = wipe σ vs ∧ tt σ2 H2 fun b H3 =>
      if b = true then te σ2 H3 fun z H4 => ∃ acc, H4 D = some (.lst acc) ∧ acc.length < sizeLine ∧ Pv (i + 1) (upd H4 D (.lst (acc ++ [z]))) else Pv (i + 1) H3) (hd : ∀ H, Pv xs.length H → Qd H) :
    ∃ W : Nat → Nat → Hp → Prop, (∃ m, W 0 m (upd H1 D (.lst []))) ∧ ∀ i m H, W i m H →
      ((ItzK K k1 k2 a b).stop i H ∧ Qd H) ∨ ((ItzK K k1 k2 a b).go i H ∧ ∃ Nx : Hp → Prop, (∀ H', Nx H' → ∃ m', m' < m ∧ W (i + 1) m' H') ∧ ∀ x H', (ItzK K k1 k2 a b).yld i H x H' → g x (wipe σ vs) H' fun σ2 H2 => wipe σ2 vs = wipe σ vs ∧ tt σ2 H2 fun b H3 =>
        if b = true then te σ2 H3 fun y H4 => ∃ acc, H4 D = some (.lst acc) ∧ acc.length < sizeLine ∧ Nx (upd H4 D (.lst (acc ++ [y]))) else Nx H3) := by
  refine ⟨fun i m H => m = xs.length - i ∧ i ≤ xs.length ∧ Pv i H, ⟨xs.length, rfl, Nat.zero_le _, h0⟩, ?_⟩
  rintro i m H ⟨rfl, hi, p⟩
  obtain ⟨q1, q2⟩ := hq i H p
  by_cases hlt : i < xs.length
  · have e1 : xs[i]? = some xs[i] := List.getElem?_eq_getElem hlt
    have hlt2 : i < ys.length := by omega
    have e2 : ys[i]? = some ys[i] := List.getElem?_eq_getElem hlt2
    refine .inr ⟨⟨xs, ys, _, _, q1, q2, e1, e2⟩, Pv (i + 1), fun H' p' => ⟨xs.length - (i + 1), by omega, rfl, hlt, p'⟩, fun x H' y => ?_⟩
    obtain ⟨T, x1, y1, rfl, nT, rfl, f1, f2⟩ := y
    exact hs i x1 y1 T H (f1 _ q1) (f2 _ q2) p nT
  · have e : i = xs.length := by omega
    exact .inl ⟨⟨xs, ys, q1, q2, by omega, by omega, .inl e⟩, hd H (e ▸ p)⟩
/-- how many entries have a level of at most l -/
def cond (l : Int) : En → Bool
  | some (_, x) => decide (x ≤ l)
  | none => false
def countE (es : List En) (l : Int) : Nat := es.countP (cond l)
/-- a hand has read an entry -/
def CS.rd0 (S : CS) (h : Int) (e : En) : CS := { S with fd := fset S.fd h (S.fd h ++ [e]) }
def Rd1 (n : Nat) (S : CS) (h : Int) (e : En) (S' : CS) : Prop :=
  ((S.fd h).length + 1 < n ∧ S' = S.rd0 h e) ∨
  ((S.fd h).length + 1 = n ∧ (countE (S.fd h ++ [e]) (S.nx h) : Int) ≠ S.nx h ∧ S' = { S.rd0 h e with wr := fset S.wr h true }) ∨
  ((S.fd h).length + 1 = n ∧ (countE (S.fd h ++ [e]) (S.nx h) : Int) = S.nx h ∧ ∃ v, S' = { S.rd0 h e with wr := fset S.wr h true, vw := fset S.vw h (S.vw h ++ [(v, countE (S.fd h ++ [e]) (S.nx h))]), nx := fset S.nx h ((n : Int) + 1) })
theorem CellsAt.gc {C : Addr} {H : Hp} {ps : List (Int × Int)} {R : Nat} {L : Lay} {S : CS} (c : CellsAt C H ps R L S) {t : Nat} (ht : t < R) (g : Int) : ∃ o, DGet H (L.ct t) (.int g) o ∧ o.getD .non = enV (S.cl t g) ∧ IsD H (L.ct t) := by
  obtain ⟨kvs, e, d⟩ := c.good (.ct t) ht
  refine ⟨_, DGet.k (k := Sum.inl g) e, ?_, .inl ⟨kvs, .inl e⟩⟩
  rw [d.val g]
  cases S.cl t g with
  | none => rfl
  | some x => rfl
end Wl

set_option maxRecDepth 100000
namespace Wl
open PySem PySem.Spec PyProof.Rows L2
section
variable {P : Program} {w : World} {K : PySem.W.Frag} {mg : Str → Option Value} {base : Heap}
def spEnded (C : Addr) : Sp := fun vs H Q _ => ∃ (ps : List (Int × Int)) (R : Nat) (L : Lay) (S : CS) (h : Int), vs = [.ref L.p, .int h] ∧ CellsAt C H ps R L S ∧ h ∈ ps.map (·.1) ∧
  ∀ H', Same H H' → Q (.int (((S.vw h).length : Int) - 1)) H'
theorem ok_Cells_ended (T : Tx K mg) : FnOk P w K mg base CX0 5 T.f_Cells_ended.a T.f_Cells_ended.d ["self", "hand"] (spEnded T.C_Cells) := by
  refine T.f_Cells_ended.F.ok sc_Cells_ended (fun vs H Q E h => ?_) (fun cdv A outer s H vs Q E hr h => ?_)
  · obtain ⟨ps, R, L, S, h, rfl, _⟩ := h
    rfl
  · obtain ⟨ps, R, L, S, h, rfl, c, hh, q⟩ := h
    refine ⟨_, (pss_cons (ps_expr (pe_call (ok_need_one_of T) (hr.mono (by decide)) (by rfl) T.f_need_one_of.g T.f_need_one_of.F.kp T.f_need_one_of.b .nil pass0 (pa_cons (pe_call (ok_hands_by T) (hr.mono (by decide)) (by rfl) T.f_hands_by.g T.f_hands_by.F.kp T.f_hands_by.b .nil pass0 (pa_cons (pe_kfld (K := K) rfl (pv 0) rfl) pa_nil)) (pa_cons (pv 1) pa_nil))))
      (pss_one (ps_ret (pe_op op_sub (pe_callB (k_len (K := K) rfl) (by rfl) T.n_len PySem.boot_len (pa_cons (pe_dget (hu_of hr) (pe_kfld (K := K) rfl (pv 0) rfl) (pv 1) (fun _ _ => rfl)) pa_nil)) pe_int)))), ?_⟩
    refine ⟨_, rfl, L.p, T.C_Cells, L.dx, _, _, rfl, c.ins, T.c_Cells, T.na_Cells_row, lk_row, L.row, ps, rfl, c.row, Nat.le_trans c.le (by decide), fun H1 a s1 na ea => ?_⟩
    refine ⟨_, rfl, a, ps.map (·.1), h, rfl, SqT.of ea, hh, (c.hand hh).1, (c.hand hh).2, ?_⟩
    have c1 := c.same s1
    have ci := c1.ins
    refine ⟨_, rfl, L.p, T.C_Cells, L.dx, _, _, rfl, ci, T.c_Cells, T.na_Cells__views, lk__views, _, rfl, L.av, _, rfl, c1.gv hh, L.vl h, _, rfl, .inl (SqL.of (c1.lv hh)), _, 1, rfl, rfl, ?_⟩
    rw [List.length_map]
    exact q H1 s1
def spView (C : Addr) : Sp := fun vs H Q _ => ∃ (ps : List (Int × Int)) (R : Nat) (L : Lay) (S : CS) (h : Int) (m : Nat) (e : V × Nat), vs = [.ref L.p, .int h, .int m] ∧ CellsAt C H ps R L S ∧ h ∈ ps.map (·.1) ∧ (S.vw h)[m]? = some e ∧
  ∀ H', Same H H' → Q e.1 H'
theorem ok_Cells_view (T : Tx K mg) : FnOk P w K mg base CX0 5 T.f_Cells_view.a T.f_Cells_view.d ["self", "hand", "moment"] (spView T.C_Cells) := by
  refine T.f_Cells_view.F.ok sc_Cells_view (fun vs H Q E h => ?_) (fun cdv A outer s H vs Q E hr h => ?_)
  · obtain ⟨ps, R, L, S, h, m, e, rfl, _⟩ := h
    rfl
  · obtain ⟨ps, R, L, S, h, m, e, rfl, c, hh, he, q⟩ := h
    have hm := (List.getElem?_eq_some_iff.mp he).1
    have hR := (c.v0 h hh).2
    refine ⟨_, (pss_cons (ps_expr (pe_call (ok_need_one_of T) (hr.mono (by decide)) (by rfl) T.f_need_one_of.g T.f_need_one_of.F.kp T.f_need_one_of.b .nil pass0 (pa_cons (pe_call (ok_hands_by T) (hr.mono (by decide)) (by rfl) T.f_hands_by.g T.f_hands_by.F.kp T.f_hands_by.b .nil pass0 (pa_cons (pe_kfld (K := K) rfl (pv 0) rfl) pa_nil)) (pa_cons (pv 1) pa_nil))))
      (pss_cons (ps_expr (pe_call (ok_need_moment T) (hr.mono (by decide)) (by rfl) T.f_need_moment.g T.f_need_moment.F.kp T.f_need_moment.b .nil pass0 (pa_cons (pv 2) (pa_cons pe_int (pa_cons (pe_kfld (K := K) rfl (pv 0) rfl) pa_nil)))))
      (pss_one (ps_ret (pe_ifExp (pt_cmpR op_lt (pv 2) (pe_callB (k_len (K := K) rfl) (by rfl) T.n_len PySem.boot_len (pa_cons (pe_dget (hu_of hr) (pe_kfld (K := K) rfl (pv 0) rfl) (pv 1) (fun _ _ => rfl)) pa_nil)) (nomark _)) (pe_ix (kx_list (K := K) rfl) (pe_dget (hu_of hr) (pe_kfld (K := K) rfl (pv 0) rfl) (pv 1) (fun _ _ => rfl)) (pv 2) (fun _ _ => rfl)) pe_non))))), ?_⟩
    refine ⟨_, rfl, L.p, T.C_Cells, L.dx, _, _, rfl, c.ins, T.c_Cells, T.na_Cells_row, lk_row, L.row, ps, rfl, c.row, Nat.le_trans c.le (by decide), fun H1 a s1 na ea => ?_⟩
    refine ⟨_, rfl, a, ps.map (·.1), h, rfl, SqT.of ea, hh, (c.hand hh).1, (c.hand hh).2, ?_⟩
    have c1 := c.same s1
    have ci := c1.ins
    refine ⟨_, rfl, _, rfl, L.p, T.C_Cells, L.dx, _, _, rfl, ci, T.c_Cells, T.na_Cells_rounds, lk_rounds, m, 0, R, rfl, by omega, by omega, ?_⟩
    refine ⟨_, rfl, _, rfl, L.p, T.C_Cells, L.dx, _, _, rfl, ci, T.c_Cells, T.na_Cells__views, lk__views, _, rfl, L.av, _, rfl, c1.gv hh, L.vl h, _, rfl, .inl (SqL.of (c1.lv hh)), m, ((S.vw h).length : Int), rfl, ?_, true, congrArg V.bl (decide_eq_true (by omega)), iteT ?_⟩
    · rw [List.length_map]
    refine ⟨_, rfl, L.p, T.C_Cells, L.dx, _, _, rfl, ci, T.c_Cells, T.na_Cells__views, lk__views, _, rfl, L.av, _, rfl, c1.gv hh, _, rfl, L.vl h, _, m, e.1, rfl, rfl, SqL.of (c1.lv hh), atI_nat (by rw [List.getElem?_map, he]; rfl), q H1 s1⟩
def spSteps (C : Addr) : Sp := fun vs H Q _ => ∃ (ps : List (Int × Int)) (R : Nat) (L : Lay) (S : CS) (h : Int), vs = [.ref L.p, .int h] ∧ CellsAt C H ps R L S ∧ h ∈ ps.map (·.1) ∧
  ∀ H', Same H H' → Q (.int (S.dn.count h : Nat)) H'
theorem ok_Cells_steps (T : Tx K mg) : FnOk P w K mg base CX0 5 T.f_Cells_steps.a T.f_Cells_steps.d ["self", "hand"] (spSteps T.C_Cells) := by
  refine T.f_Cells_steps.F.ok sc_Cells_steps (fun vs H Q E h => ?_) (fun cdv A outer s H vs Q E hr h => ?_)
  · obtain ⟨ps, R, L, S, h, rfl, _⟩ := h
    rfl
  · obtain ⟨ps, R, L, S, h, rfl, c, hh, q⟩ := h
    refine ⟨_, (pss_cons (ps_expr (pe_call (ok_need_one_of T) (hr.mono (by decide)) (by rfl) T.f_need_one_of.g T.f_need_one_of.F.kp T.f_need_one_of.b .nil pass0 (pa_cons (pe_call (ok_hands_by T) (hr.mono (by decide)) (by rfl) T.f_hands_by.g T.f_hands_by.F.kp T.f_hands_by.b .nil pass0 (pa_cons (pe_kfld (K := K) rfl (pv 0) rfl) pa_nil)) (pa_cons (pv 1) pa_nil))))
      (pss_one (ps_ret (pe_kbm (K := K) rfl PySem.F.plainAttrs_list PySem.F.slot_list_count PySem.F.type_list_count (k_count (K := K) rfl) (pe_kfld (K := K) rfl (pv 0) rfl) (pa_cons (pv 1) pa_nil))))), ?_⟩
    refine ⟨_, rfl, L.p, T.C_Cells, L.dx, _, _, rfl, c.ins, T.c_Cells, T.na_Cells_row, lk_row, L.row, ps, rfl, c.row, Nat.le_trans c.le (by decide), fun H1 a s1 na ea => ?_⟩
    refine ⟨_, rfl, a, ps.map (·.1), h, rfl, SqT.of ea, hh, (c.hand hh).1, (c.hand hh).2, ?_⟩
    have c1 := c.same s1
    have ci := c1.ins
    exact ⟨_, rfl, L.p, T.C_Cells, L.dx, _, _, rfl, ci, T.c_Cells, T.na_Cells__done, lk__done, .inl ⟨rfl, _, SqL.of c1.ld⟩, _, rfl, L.ad, S.dn, h, rfl, rfl, SqL.of c1.ld, q H1 s1⟩
def spFound (C : Addr) : Sp := fun vs H Q _ => ∃ (ps : List (Int × Int)) (R : Nat) (L : Lay) (S : CS) (h : Int), vs = [.ref L.p, .int h] ∧ CellsAt C H ps R L S ∧ h ∈ ps.map (·.1) ∧
  ∀ H' u, Same H H' → H u = none → H' u = some (.lst ((S.fd h).map enV)) → Q (.ref u) H'
theorem ok_Cells_found (T : Tx K mg) : FnOk P w K mg base CX0 5 T.f_Cells_found.a T.f_Cells_found.d ["self", "hand"] (spFound T.C_Cells) := by
  refine T.f_Cells_found.F.ok sc_Cells_found (fun vs H Q E h => ?_) (fun cdv A outer s H vs Q E hr h => ?_)
  · obtain ⟨ps, R, L, S, h, rfl, _⟩ := h
    rfl
  · obtain ⟨ps, R, L, S, h, rfl, c, hh, q⟩ := h
    refine ⟨_, (pss_cons (ps_expr (pe_call (ok_need_one_of T) (hr.mono (by decide)) (by rfl) T.f_need_one_of.g T.f_need_one_of.F.kp T.f_need_one_of.b .nil pass0 (pa_cons (pe_call (ok_hands_by T) (hr.mono (by decide)) (by rfl) T.f_hands_by.g T.f_hands_by.F.kp T.f_hands_by.b .nil pass0 (pa_cons (pe_kfld (K := K) rfl (pv 0) rfl) pa_nil)) (pa_cons (pv 1) pa_nil))))
      (pss_one (ps_ret (pe_callTy (k_listOf (K := K) rfl) (by rfl) T.n_list boot_list (pa_cons (pe_dget (hu_of hr) (pe_kfld (K := K) rfl (pv 0) rfl) (pv 1) (fun _ _ => rfl)) pa_nil))))), ?_⟩
    refine ⟨_, rfl, L.p, T.C_Cells, L.dx, _, _, rfl, c.ins, T.c_Cells, T.na_Cells_row, lk_row, L.row, ps, rfl, c.row, Nat.le_trans c.le (by decide), fun H1 a s1 na ea => ?_⟩
    refine ⟨_, rfl, a, ps.map (·.1), h, rfl, SqT.of ea, hh, (c.hand hh).1, (c.hand hh).2, ?_⟩
    have c1 := c.same s1
    have ci := c1.ins
    exact ⟨_, rfl, L.p, T.C_Cells, L.dx, _, _, rfl, ci, T.c_Cells, T.na_Cells__found, lk__found, _, rfl, L.af, _, rfl, c1.gf hh, L.fl h, _, rfl, .inl (SqL.of (c1.lf hh)), fun u nu => q _ u (same_snoc s1 nu) (s1.free nu) upd_same⟩
def spWrite (C : Addr) : Sp := fun vs H Q _ => ∃ (ps : List (Int × Int)) (R : Nat) (L : Lay) (S : CS) (h : Int) (t : Nat), vs = [.ref L.p, .int h, .int t] ∧ CellsAt C H ps R L S ∧ h ∈ ps.map (·.1) ∧ t + 1 = (S.vw h).length ∧ t < R ∧
  ∀ (H' : Hp) (L' : Lay) (u p : Addr), Moved (ps.map (·.1)) R H L H' L' → L'.p = L.p → H u = none → H' u = some (.tup [.str "write", .int ((t : Int) + 1), .int (S.nx h - 1)]) → CellsAt C H' ps R L' (S.wrt h t p) → Q (.ref u) H'
theorem ok_Cells__write (T : Tx K mg) : FnOk P w K mg base CX0 1 T.f_Cells__write.a T.f_Cells__write.d ["self", "hand", "turn"] (spWrite T.C_Cells) := by
  refine T.f_Cells__write.F.ok sc_Cells__write (fun vs H Q E h => ?_) (fun cdv A outer s H vs Q E hr h => ?_)
  · obtain ⟨ps, R, L, S, h, t, rfl, _⟩ := h
    rfl
  · obtain ⟨ps, R, L, S, h, t, rfl, c, hh, ht, htR, q⟩ := h
    refine ⟨_, (pss_cons (ps_set (i := 3) sc_Cells__write.nd rfl (.inl rfl) (pe_op op_sub (pe_dget (hu_of hr) (pe_kfld (K := K) rfl (pv 0) rfl) (pv 1) (fun _ _ => rfl)) pe_int))
      (pss_cons (ps_asg (pe_tup (pa_cons (pv 3) (pa_cons (pe_lst pa_nil) (pa_cons pe_bl pa_nil)))) (pg_ktup (K := K) (n := 3) rfl rfl (pgs_cons (pg_sub (pe_kfld (K := K) rfl (pv 0) rfl) (pv 1) (set_dict (hu_of hr))) (pgs_cons (pg_sub (pe_kfld (K := K) rfl (pv 0) rfl) (pv 1) (set_dict (hu_of hr))) (pgs_cons (pg_sub (pe_kfld (K := K) rfl (pv 0) rfl) (pv 1) (set_dict (hu_of hr))) pgs_nil)))))
      (pss_cons (ps_dput (hu_of hr) (pe_ix (kx_list (K := K) rfl) (pe_kfld (K := K) rfl (pv 0) rfl) (pv 2) (fun _ _ => rfl)) (pv 1) (pe_tup (pa_cons (pe_ix (kx_list (K := K) rfl) (pe_dget (hu_of hr) (pe_kfld (K := K) rfl (pv 0) rfl) (pv 1) (fun _ _ => rfl)) (pv 2) (fun _ _ => rfl)) (pa_cons (pv 3) pa_nil))) rfl)
      (pss_one (ps_ret (pe_tup (pa_cons pe_str (pa_cons (pe_op op_add (pv 2) pe_int) (pa_cons (pv 3) pa_nil))))))))), ?_⟩
    -- level
    refine ⟨_, rfl, L.p, T.C_Cells, L.dx, _, _, rfl, c.ins, T.c_Cells, T.na_Cells__next, lk__next, _, rfl, L.an, _, rfl, c.gn hh, _, 1, rfl, rfl, ?_⟩
    -- the three stores
    refine ⟨_, rfl, Nat.zero_le _, fun q0 nq0 => ⟨by show 3 ≤ sizeLine; decide, fun u0 nu0 => ?_⟩⟩
    have m0 : Moved (ps.map (·.1)) R H L (upd (upd H q0 (.lst [])) u0 (.tup [.int (S.nx h - 1), .ref q0, .bl false])) L := (Moved.rfl'.new nq0).new nu0
    have c0 := (c.same (same_new (o := .lst []) nq0)).same (same_new (o := .tup [.int (S.nx h - 1), .ref q0, .bl false]) nu0)
    have nf0 := c.off nq0
    refine ⟨u0, _, rfl, SqT.of upd_same, rfl, _, _, rfl, ?_⟩
    obtain ⟨H1, put1, c1, m1⟩ := c0.setN hh (S.nx h - 1)
    have c0i := c0.ins
    refine ⟨_, rfl, L.p, T.C_Cells, L.dx, _, _, rfl, c0i, T.c_Cells, T.na_Cells__next, lk__next, _, rfl, L.an, H1, rfl, put1, _, _, rfl, ?_⟩
    have c1i := c1.ins
    have e1 : H1 q0 = some (.lst []) := m1.keep _ _ (same_new nu0 _ _ upd_same) nf0
    obtain ⟨H2, put2, c2, k2, f2, g2⟩ := c1.setF hh e1 nf0
    refine ⟨_, rfl, L.p, T.C_Cells, L.dx, _, _, rfl, c1i, T.c_Cells, T.na_Cells__found, lk__found, _, rfl, L.af, H2, rfl, put2, _, _, rfl, ?_⟩
    have c2i := c2.ins
    have m2 : Moved (ps.map (·.1)) R H L H2 { L with fl := fset L.fl h q0 } := by
      refine ⟨(m0.trans m1).keep.trans k2, fun b hb => ?_, fun b hb => (m0.trans m1).free b (g2 b hb)⟩
      rcases f2 b hb with z | z
      · exact .inl z
      · rw [z]
        exact .inr nq0
    obtain ⟨H3, put3, c3, m3⟩ := c2.setW hh false
    refine ⟨_, rfl, L.p, T.C_Cells, L.dx, _, _, rfl, c2i, T.c_Cells, T.na_Cells__writing, lk__writing, _, rfl, L.aw, H3, rfl, put3, rfl, ?_⟩
    have c3i := c3.ins
    have m3' := m2.trans m3
    -- the cell
    have hv : ((S.vw h).map (·.1))[t]? = some ((S.vw h)[t]'(by omega)).1 := by rw [List.getElem?_map, List.getElem?_eq_getElem (by omega)]; rfl
    refine ⟨_, rfl, L.p, T.C_Cells, L.dx, _, _, rfl, c3i, T.c_Cells, T.na_Cells__views, lk__views, _, rfl, L.av, _, rfl, c3.gv hh, _, rfl, L.vl h, _, (t : Int), _, rfl, rfl, SqL.of (c3.lv hh), atI_nat hv, _, rfl, by show 2 ≤ sizeLine; decide, fun p0 np0 => ?_⟩
    have c4 := c3.same (same_new (o := .tup [((S.vw h)[t]'(by omega)).1, .int (S.nx h - 1)]) np0)
    have c4i := c4.ins
    obtain ⟨H5, put5, c5, m5⟩ := c4.setC hh htR upd_same
    refine ⟨_, rfl, L.p, T.C_Cells, L.dx, _, _, rfl, c4i, T.c_Cells, T.na_Cells__cells, lk__cells, _, rfl, L.ac, _, (t : Int), .ref (L.ct t), rfl, rfl, SqL.of c4.lc, atI_nat (by rw [List.getElem?_map, List.getElem?_range htR]; rfl), _, rfl, L.ct t, H5, rfl, put5, ?_⟩
    -- the answer
    refine ⟨_, rfl, _, 1, rfl, rfl, _, rfl, by show 3 ≤ sizeLine; decide, fun u nu => ?_⟩
    have m6 := (m3'.new (o := .tup [((S.vw h)[t]'(by omega)).1, .int (S.nx h - 1)]) np0).trans m5
    have c6 := c5.same (same_new (o := .tup [.str "write", .int ((t : Int) + 1), .int (S.nx h - 1)]) nu)
    exact q _ _ u p0 (m6.new nu) rfl (m6.free u nu) upd_same c6
def spRead (C : Addr) : Sp := fun vs H Q _ => ∃ (ps : List (Int × Int)) (R : Nat) (L : Lay) (S : CS) (h : Int) (t : Nat) (g : Int), vs = [.ref L.p, .int h, .int t] ∧ CellsAt C H ps R L S ∧ h ∈ ps.map (·.1) ∧ t + 1 = (S.vw h).length ∧ t < R ∧ (ps.map (·.1))[(S.fd h).length]? = some g ∧
  ∀ (H' : Hp) (u : Addr) (S' : CS), Moved (ps.map (·.1)) R H L H' L → H u = none → H' u = some (.tup [.str "read", .int ((t : Int) + 1), .int g, enV (S.cl t g)]) → CellsAt C H' ps R L S' → Rd1 ps.length S h (S.cl t g) S' → Q (.ref u) H'
set_option maxHeartbeats 4000000 in
theorem ok_Cells__read (T : Tx K mg) : FnOk P w K mg base CX0 2 T.f_Cells__read.a T.f_Cells__read.d ["self", "hand", "turn"] (spRead T.C_Cells) := by
  refine T.f_Cells__read.F.ok sc_Cells__read (fun vs H Q E h => ?_) (fun cdv A outer s H vs Q E hr h => ?_)
  · obtain ⟨ps, R, L, S, h, t, g, rfl, _⟩ := h
    rfl
  · obtain ⟨ps, R, L, S, h, t, g, rfl, c, hh, ht, htR, hg, q⟩ := h
    have hps := c.le
    have hgm : g ∈ ps.map (·.1) := List.mem_of_getElem? hg
    refine ⟨_, (pss_cons (ps_set (i := 3) sc_Cells__read.nd rfl (.inl rfl) (pe_call (ok_hands_by T) (hr.mono (by decide)) (by rfl) T.f_hands_by.g T.f_hands_by.F.kp T.f_hands_by.b .nil pass0 (pa_cons (pe_kfld (K := K) rfl (pv 0) rfl) pa_nil)))
      (pss_cons (ps_set (i := 4) sc_Cells__read.nd rfl (.inl rfl) (pe_ix (kx_tup (K := K) rfl) (pv 3) (pe_callB (k_len (K := K) rfl) (by rfl) T.n_len PySem.boot_len (pa_cons (pe_dget (hu_of hr) (pe_kfld (K := K) rfl (pv 0) rfl) (pv 1) (fun _ _ => rfl)) pa_nil)) (fun _ _ => rfl)))
      (pss_cons (ps_set (i := 5) sc_Cells__read.nd rfl (.inl rfl) (pe_dget1 (hu_of hr) (pe_ix (kx_list (K := K) rfl) (pe_kfld (K := K) rfl (pv 0) rfl) (pv 2) (fun _ _ => rfl)) (pv 4) ⟨rfl, rfl, rfl, rfl⟩))
      (pss_cons (ps_expr (pe_kbm (K := K) rfl PySem.F.plainAttrs_list PySem.F.slot_list_append PySem.F.type_list_append mt_append (pe_dget (hu_of hr) (pe_kfld (K := K) rfl (pv 0) rfl) (pv 1) (fun _ _ => rfl)) (pa_cons (pv 5) pa_nil)))
      (pss_mid (ps_if (pt_cmpR op_eq (pe_callB (k_len (K := K) rfl) (by rfl) T.n_len PySem.boot_len (pa_cons (pe_dget (hu_of hr) (pe_kfld (K := K) rfl (pv 0) rfl) (pv 1) (fun _ _ => rfl)) pa_nil)) (pe_kfld (K := K) rfl (pv 0) rfl) (nomark _)) (pss_cons (ps_dput (hu_of hr) (pe_kfld (K := K) rfl (pv 0) rfl) (pv 1) pe_bl rfl)
        (pss_cons (ps_set (i := 6) sc_Cells__read.nd rfl (.inr rfl) (pe_dget (hu_of hr) (pe_kfld (K := K) rfl (pv 0) rfl) (pv 1) (fun _ _ => rfl)))
        (pss_cons (ps_setLc (i := 7) (own := [("other", 8), ("pair", 9)]) rfl sc_Cells__read.nd rfl rfl (sw_true rfl rfl rfl (by decide +kernel)) (pi_zipK true false (by rfl) T.n_zip (pa_cons (pv 3) (pa_cons (pe_dget (hu_of hr) (pe_kfld (K := K) rfl (pv 0) rfl) (pv 1) (fun _ _ => rfl)) pa_nil))) (blkOk_by (N := ["self", "hand", "turn", "hands", "whose", "found", "level", "pairs", "other", "pair", "counted"]) (sc := defScope s_Cells__read) (by decide +kernel)) (fun _ _ _ _ _ => (pg_ktup (K := K) (n := 2) rfl rfl (pgs_cons (pg_name (i := 8) sc_Cells__read.nd rfl (.inl rfl)) (pgs_cons (pg_name (i := 9) sc_Cells__read.nd rfl (.inl rfl)) pgs_nil)))) (fun _ _ _ _ _ => pts_nil) (fun _ _ _ _ _ => (pe_tup (pa_cons (pv 8) (pa_cons (pv 9) pa_nil)))))
        (pss_cons (ps_setLc (i := 10) (own := [("other", 8), ("pair", 9)]) rfl sc_Cells__read.nd rfl rfl (sw_true rfl rfl rfl (by decide +kernel)) (pi_list (pv 7)) (blkOk_by (N := ["self", "hand", "turn", "hands", "whose", "found", "level", "pairs", "other", "pair", "counted"]) (sc := defScope s_Cells__read) (by decide +kernel)) (fun _ _ _ _ _ => (pg_ktup (K := K) (n := 2) rfl rfl (pgs_cons (pg_name (i := 8) sc_Cells__read.nd rfl (.inl rfl)) (pgs_cons (pg_name (i := 9) sc_Cells__read.nd rfl (.inl rfl)) pgs_nil)))) (fun _ _ _ _ _ => (pts_one (PW.pt (pw_and (pt_cmpR op_notN (pv 9) pe_non (nomark _)) (pw_and1 (pt_cmpR op_le (pe_ix (kx_tup (K := K) rfl) (pv 9) pe_int (fun _ _ => rfl)) (pv 6) (nomark _))))))) (fun _ _ _ _ _ => (pe_tup (pa_cons (pv 8) (pa_cons (pe_ix (kx_tup (K := K) rfl) (pv 9) pe_int (fun _ _ => rfl)) pa_nil)))))
        (pss_one (ps_if (pt_cmpR op_eq (pe_callB (k_len (K := K) rfl) (by rfl) T.n_len PySem.boot_len (pa_cons (pv 10) pa_nil)) (pv 6) (nomark _)) (pss_cons (ps_expr (pe_kbm (K := K) rfl PySem.F.plainAttrs_list PySem.F.slot_list_append PySem.F.type_list_append mt_append (pe_dget (hu_of hr) (pe_kfld (K := K) rfl (pv 0) rfl) (pv 1) (fun _ _ => rfl)) (pa_cons (pe_callTy (k_tupOf (K := K) rfl) (by rfl) T.n_tuple boot_tuple (pa_cons (pv 10) pa_nil)) pa_nil)))
          (pss_one (ps_dput (hu_of hr) (pe_kfld (K := K) rfl (pv 0) rfl) (pv 1) (pe_op op_add (pe_kfld (K := K) rfl (pv 0) rfl) pe_int) rfl))) pss_nil)))))) pss_nil)
      (pss_one (ps_ret (pe_tup (pa_cons pe_str (pa_cons (pe_op op_add (pv 2) pe_int) (pa_cons (pv 4) (pa_cons (pv 5) pa_nil)))))))))))), ?_⟩
    -- hands, whose, found
    refine ⟨_, rfl, L.p, T.C_Cells, L.dx, _, _, rfl, c.ins, T.c_Cells, T.na_Cells_row, lk_row, L.row, ps, rfl, c.row, Nat.le_trans c.le (by decide), fun H1 a s1 na ea => ?_⟩
    have c1 := c.same s1
    have m1 : Moved (ps.map (·.1)) R H L H1 L := .of s1
    have ci := c1.ins
    refine ⟨_, rfl, _, rfl, L.p, T.C_Cells, L.dx, _, _, rfl, ci, T.c_Cells, T.na_Cells__found, lk__found, _, rfl, L.af, _, rfl, c1.gf hh, L.fl h, _, rfl, .inl (SqL.of (c1.lf hh)), a, (ps.map (·.1)).map V.int, ((S.fd h).length : Int), .int g, rfl, ?_, SqT.of ea, atI_nat (by rw [List.getElem?_map, hg]; rfl), ?_⟩
    · rw [List.length_map]
    obtain ⟨o, dg, eo, isd⟩ := c1.gc htR g
    refine ⟨_, rfl, L.p, T.C_Cells, L.dx, _, _, rfl, ci, T.c_Cells, T.na_Cells__cells, lk__cells, _, rfl, L.ac, _, (t : Int), .ref (L.ct t), rfl, rfl, SqL.of c1.lc, atI_nat (by rw [List.getElem?_map, List.getElem?_range htR]; rfl), L.ct t, rfl, isd, _, rfl, o, dg, ?_⟩
    rw [eo]
    -- append
    have heAt : EnAt H1 (S.cl t g) := c1.cl t g
    refine ⟨_, rfl, L.p, T.C_Cells, L.dx, _, _, rfl, ci, T.c_Cells, T.na_Cells__found, lk__found, _, rfl, L.af, _, rfl, c1.gf hh, .inl ⟨rfl, _, SqL.of (c1.lf hh)⟩, _, rfl, L.fl h, _, _, rfl, rfl, c1.lf hh, ?_, ?_⟩
    · rw [List.length_map]
      have := (List.getElem?_eq_some_iff.mp hg).1
      rw [List.length_map] at this
      exact small1000 (by omega)
    have c2 := c1.addF hh heAt
    have m2 : Moved (ps.map (·.1)) R H L (upd H1 (L.fl h) (.lst ((S.fd h).map enV ++ [enV (S.cl t g)]))) L := m1.trans (Moved.put (r := .fl h) hh)
    generalize eH2 : upd H1 (L.fl h) (.lst ((S.fd h).map enV ++ [enV (S.cl t g)])) = H2 at c2 m2
    have c2' : CellsAt T.C_Cells H2 ps R L (S.rd0 h (S.cl t g)) := c2
    have lf2 := c2'.lf hh
    have fd2 : (S.rd0 h (S.cl t g)).fd h = S.fd h ++ [S.cl t g] := fset_same
    rw [fd2] at lf2
    have ea2 : H2 a = some (.tup ((ps.map (·.1)).map V.int)) := by
      rw [← eH2, upd_ne]
      · exact ea
      · exact fun z => by
          have := c1.lf hh
          rw [← z, ea] at this
          cases this
    have ci2 := c2'.ins
    have hkn : (S.fd h).length < ps.length := by
      have := (List.getElem?_eq_some_iff.mp hg).1
      rwa [List.length_map] at this
    refine ⟨fun σ H' => ∃ (S' : CS) (y6 y7 y8 y9 y10 : Option V), σ = [some (.ref L.p), some (.int h), some (.int t), some (.ref a), some (.int g), some (enV (S.cl t g)), y6, y7, y8, y9, y10] ∧ CellsAt T.C_Cells H' ps R L S' ∧ Rd1 ps.length S h (S.cl t g) S' ∧ Moved (ps.map (·.1)) R H L H' L, ?_, ?_⟩
    · -- if len(found) == many
      refine ⟨_, rfl, L.p, T.C_Cells, L.dx, _, _, rfl, ci2, T.c_Cells, T.na_Cells__found, lk__found, _, rfl, L.af, _, rfl, c2'.gf hh, L.fl h, _, rfl, .inl (SqL.of lf2), _, rfl, L.p, T.C_Cells, L.dx, _, _, rfl, ci2, T.c_Cells, T.na_Cells_many, lk_many, rfl, _, rfl, ?_⟩
      rw [List.length_map, List.length_map, List.length_append, List.length_singleton]
      refine ite2 (fun e => ?_) (fun e => ?_)
      · have e1 : (S.fd h).length + 1 = ps.length := by
          have := V.int.inj (of_decide_eq_true e)
          omega
        obtain ⟨H3, put3, c3, m3⟩ := c2'.setW hh true
        refine ⟨_, rfl, L.p, T.C_Cells, L.dx, _, _, rfl, ci2, T.c_Cells, T.na_Cells__writing, lk__writing, _, rfl, L.aw, H3, rfl, put3, ?_⟩
        have ci3 := c3.ins
        refine ⟨_, rfl, L.p, T.C_Cells, L.dx, _, _, rfl, ci3, T.c_Cells, T.na_Cells__next, lk__next, _, rfl, L.an, _, rfl, c3.gn hh, ?_⟩
        have lf3 := c3.lf hh
        rw [show ({ S.rd0 h (S.cl t g) with wr := fset (S.rd0 h (S.cl t g)).wr h true } : CS).fd h = S.fd h ++ [S.cl t g] from fset_same] at lf3
        have ea3 : H3 a = some (.tup ((ps.map (·.1)).map V.int)) := c2'.tups m3.keep _ _ ea2
        have m3' := m2.trans m3
        generalize hes : S.fd h ++ [S.cl t g] = es at lf3
        have hel : es.length = ps.length := by rw [← hes, List.length_append, List.length_singleton]; exact e1
        have hea : ∀ e ∈ es, EnAt H3 e := fun e he => by
          refine c3.fd h e ?_
          show e ∈ fset S.fd h (S.fd h ++ [S.cl t g]) h
          rw [fset_same, hes]
          exact he
        -- pairs
        refine ⟨_, rfl, _, rfl, L.p, T.C_Cells, L.dx, _, _, rfl, ci3, T.c_Cells, T.na_Cells__found, lk__found, _, rfl, L.af, _, rfl, c3.gf hh, a, L.fl h, _, _, rfl, SqT.of ea3, SqL.of lf3, fun D nD => lc_zipK (K := K) (k1 := true) (k2 := false) (a := a) (b := L.fl h) (xs := (ps.map (·.1)).map V.int) (ys := es.map enV) (by simp [hel])
          (fun i H' => ∃ qs : List Addr, H' D = some (.lst (qs.map V.ref)) ∧ qs.length = i ∧ (∀ (j : Nat) (q : Addr) (e : En), qs[j]? = some q → es[j]? = some e → ∃ o, H' q = some (.tup [.int o, enV e])) ∧ Same H3 H')
          ⟨[], upd_same, rfl, fun j q e z => by simp at z, same_new nD⟩ (fun i H' ⟨_, _, _, _, s'⟩ => ⟨SqT.of (s' _ _ ea3), SqL.of (s' _ _ lf3)⟩) ?_ ?_⟩
        · rintro i x y T' H' hx hy ⟨qs, eD, hq, hqs, s'⟩ nT
          obtain ⟨o, ho, rfl⟩ := int_at hx
          obtain ⟨e', he', rfl⟩ : ∃ e', es[i]? = some e' ∧ y = enV e' := by
            rw [List.getElem?_map] at hy
            cases z : es[i]? with
            | none => rw [z] at hy; cases hy
            | some u => rw [z] at hy; exact ⟨u, rfl, (Option.some.inj hy).symm⟩
          have hil := (List.getElem?_eq_some_iff.mp he').1
          refine ⟨T', _, rfl, SqT.of upd_same, rfl, _, _, rfl, _, _, rfl, rfl, rfl, _, rfl, _, rfl, by show 2 ≤ sizeLine; decide, fun u nu => ?_⟩
          have nuD : D ≠ u := ne_of_none (same_new nT _ _ eD) nu
          have sT := (same_new (o := .tup [.int o, enV e']) nT).trans (same_new (o := .tup [.int o, enV e']) nu)
          have eD' := sT _ _ eD
          have tp : Tups (upd (upd H' T' (.tup [.int o, enV e'])) u (.tup [.int o, enV e'])) (upd (upd (upd H' T' (.tup [.int o, enV e'])) u (.tup [.int o, enV e'])) D (.lst (qs.map V.ref ++ [.ref u]))) := Tups.put eD' fun _ z => nomatch z
          refine ⟨_, eD', ?_, qs ++ [u], ?_, ?_, ?_, ?_⟩
          · rw [List.length_map]
            exact small1000 (by omega)
          · rw [upd_same, List.map_append]
            rfl
          · rw [List.length_append, List.length_singleton, hq]
          · intro j q e2 hj he2
            by_cases hji : j < qs.length
            · rw [List.getElem?_append_left hji] at hj
              obtain ⟨o2, eo2⟩ := hqs j q e2 hj he2
              exact ⟨o2, tp _ _ (sT _ _ eo2)⟩
            · rw [List.getElem?_append_right (by omega)] at hj
              have hj2 : j = qs.length := by
                have := (List.getElem?_eq_some_iff.mp hj).1
                simp at this
                omega
              rw [hj2] at hj he2
              simp at hj
              rw [hq, he'] at he2
              cases he2
              rw [← hj]
              exact ⟨o, tp _ _ upd_same⟩
          · intro b o2 e2
            rw [upd_ne (ne_of_none e2 nD)]
            exact sT _ _ (s' _ _ e2)
        · rintro H4 ⟨qs, eD, hq, hqs, s4⟩
          rw [List.length_map, List.length_map] at hq
          -- counted
          refine ⟨_, rfl, D, rfl, ⟨_, SqL.of eD⟩, fun D2 nD2 => lc_list (K := K) (a := D) (xs := qs.map V.ref) (fun i H' => ∃ cs : List V, H' D2 = some (.lst cs) ∧ cs.length = (es.take i).countP (cond (S.nx h)) ∧ Same H4 H')
            ⟨[], upd_same, by simp, same_new nD2⟩ (fun i H' _ ⟨_, _, _, s'⟩ => SqL.of (s' _ _ eD)) ?_ ?_⟩
          · rintro i x H' hx ⟨cs, eC, hcs, s'⟩
            obtain ⟨q0, hq0, rfl⟩ : ∃ q0, qs[i]? = some q0 ∧ x = .ref q0 := by
              rw [List.getElem?_map] at hx
              cases z : qs[i]? with
              | none => rw [z] at hx; cases hx
              | some u => rw [z] at hx; exact ⟨u, rfl, (Option.some.inj hx).symm⟩
            have hil := (List.getElem?_eq_some_iff.mp hq0).1
            have hie : i < es.length := by omega
            obtain ⟨o, eo⟩ := hqs i q0 es[i] hq0 (List.getElem?_eq_getElem hie)
            have eo' := s' _ _ eo
            have tk : (es.take (i + 1)).countP (cond (S.nx h)) = (es.take i).countP (cond (S.nx h)) + (if cond (S.nx h) es[i] = true then 1 else 0) := by
              rw [List.take_add_one, List.getElem?_eq_getElem hie, List.countP_append]
              simp [List.countP_cons]
            refine ⟨q0, _, rfl, SqT.of eo', rfl, _, _, rfl, _, _, rfl, rfl, rfl, _, rfl, rfl, _, rfl, ?_⟩
            cases hei : es[i] with
            | none =>
              refine iteF (iteF ⟨cs, eC, ?_, s'⟩)
              rw [tk, hei]
              exact hcs
            | some pl =>
              obtain ⟨v0, ev0⟩ := hea es[i] (List.getElem_mem hie) pl hei
              have ev' := s' _ _ (s4 _ _ ev0)
              refine iteT ⟨_, rfl, pl.1, _, 1, .int pl.2, rfl, rfl, SqT.of ev', atI_nat (j := 1) rfl, _, rfl, pl.2, S.nx h, rfl, rfl, _, rfl, ?_⟩
              refine ite2 (fun hc => ?_) (fun hc => ?_)
              · refine ⟨_, rfl, _, rfl, pl.1, _, 0, v0, rfl, rfl, SqT.of ev', atI_nat (j := 0) rfl, by show 2 ≤ sizeLine; decide, fun u nu => ?_⟩
                refine ⟨cs, same_new nu _ _ eC, ?_, cs ++ [.ref u], upd_same, ?_, ?_⟩
                · have : cs.length ≤ (es.take i).length := by rw [hcs]; exact List.countP_le_length
                  rw [List.length_take] at this
                  exact small1000 (by omega)
                · rw [List.length_append, List.length_singleton, tk, hei, hcs]
                  show _ = _ + (if cond (S.nx h) (some pl) = true then 1 else 0)
                  rw [if_pos (show cond (S.nx h) (some pl) = true from hc)]
                · intro b o2 e2
                  rw [upd_ne (ne_of_none e2 nD2)]
                  exact same_new nu _ _ (s' _ _ e2)
              · refine ⟨cs, eC, ?_, s'⟩
                rw [tk, hei, if_neg (show ¬ cond (S.nx h) (some pl) = true from hc)]
                exact hcs
          · rintro H5 ⟨cs, eC, hcs, s5⟩
            rw [List.length_map, List.take_of_length_le (by omega)] at hcs
            have s35 := s4.trans s5
            have c5 := c3.same s35
            have ci5 := c5.ins
            have m5 : Moved (ps.map (·.1)) R H L H5 L := m3'.trans (.of s35)
            refine ⟨_, rfl, D2, cs, rfl, .inl (SqL.of eC), _, rfl, rfl, _, rfl, ?_⟩
            refine ite2 (fun hc => ?_) (fun hc => ?_)
            · have hc' : ((countE es (S.nx h) : Nat) : Int) = S.nx h := by
                have := V.int.inj (of_decide_eq_true hc)
                unfold countE
                rw [← hcs]
                exact this
              refine ⟨_, rfl, L.p, T.C_Cells, L.dx, _, _, rfl, ci5, T.c_Cells, T.na_Cells__views, lk__views, _, rfl, L.av, _, rfl, c5.gv hh, .inl ⟨rfl, _, SqL.of (c5.lv hh)⟩, _, rfl, D2, cs, rfl, .inl ⟨SqL.of eC, fun v nv => ?_⟩⟩
              have c6 := c5.same (same_new (o := .tup cs) nv)
              have m6 := m5.new (o := .tup cs) nv
              refine ⟨L.vl h, _, _, rfl, rfl, c6.lv hh, ?_, ?_⟩
              · rw [List.length_map]
                show (S.vw h).length < sizeLine
                have hR : R ≤ 6 := c.rle
                exact small1000 (by omega)
              have c7 := c6.addV hh (e := (.ref v, cs.length)) ⟨v, cs, rfl, upd_same, rfl⟩ (show (S.vw h).length ≤ R by omega)
              have m7 := m6.trans (Moved.put (r := .vl h) (o := .lst ((S.vw h).map (·.1) ++ [.ref v])) hh)
              have ci7 := c7.ins
              obtain ⟨H8, put8, c8, m8⟩ := c7.setN hh ((ps.length : Int) + 1)
              have eln : ((ps.map (·.1)).length : Int) = (ps.length : Int) := by rw [List.length_map]
              refine ⟨_, rfl, L.p, T.C_Cells, L.dx, _, _, rfl, ci7, T.c_Cells, T.na_Cells_many, lk_many, _, 1, rfl, rfl, _, rfl, L.p, T.C_Cells, L.dx, _, _, rfl, ci7, T.c_Cells, T.na_Cells__next, lk__next, _, rfl, L.an, H8, rfl, by rw [eln]; exact put8, ?_⟩
              exact ⟨_, _, _, _, _, _, rfl, c8, .inr (.inr ⟨e1, by rw [hes]; exact hc', .ref v, by rw [hes]; unfold countE; rw [← hcs]; rfl⟩), m7.trans m8⟩
            · have hc' : ¬ ((countE es (S.nx h) : Nat) : Int) = S.nx h := fun z => hc (decide_eq_true (by rw [hcs]; exact congrArg V.int z))
              exact ⟨_, _, _, _, _, _, rfl, c5, .inr (.inl ⟨e1, by rw [hes]; exact hc', rfl⟩), m5⟩
      · have e1 : ¬ (S.fd h).length + 1 = ps.length := fun z => e (decide_eq_true (by rw [z]))
        exact ⟨_, none, none, none, none, none, rfl, c2', .inl ⟨by omega, rfl⟩, m2⟩
    · rintro σ H3 ⟨S', y6, y7, y8, y9, y10, rfl, c3, rd, m3⟩
      refine ⟨_, rfl, _, 1, rfl, rfl, _, rfl, _, rfl, by show 4 ≤ sizeLine; decide, fun u nu => ?_⟩
      exact q _ u S' (m3.new nu) (m3.free u nu) upd_same (c3.same (same_new nu)) rd
end
end Wl


set_option maxRecDepth 100000
/-! Making cells: places one by one. -/
namespace Wl
open PySem PySem.Spec PyProof.Rows L2
structure Pt (x : Addr) (H0 : Hp) (ok : Rl → Prop) (H : Hp) (at_ : Rl → Addr) : Prop where
  inj : ∀ r r', ok r → ok r' → at_ r = at_ r' → r = r'
  trk : ∀ r, ok r → ∃ o, H (at_ r) = some o
  new : ∀ r, ok r → at_ r = x ∨ H0 (at_ r) = none
  grow : ∀ b, H b = none → H0 b = none
  keep : Keep (fun b => b = x) H0 H
def aset (at_ : Rl → Addr) (r0 : Rl) (p : Addr) : Rl → Addr := fun r => if r = r0 then p else at_ r
theorem aset_same {at_ : Rl → Addr} {r : Rl} {p : Addr} : aset at_ r p r = p := if_pos rfl
theorem aset_ne {at_ : Rl → Addr} {r r0 : Rl} {p : Addr} (h : r ≠ r0) : aset at_ r0 p r = at_ r := if_neg h
section
variable {x : Addr} {H0 : Hp} {ok ok' : Rl → Prop} {H : Hp} {at_ : Rl → Addr}
theorem Pt.add (t : Pt x H0 ok H at_) {p : Addr} (h : H p = none) (r0 : Rl) (o : HO) : Pt x H0 (fun r => ok r ∨ r = r0) (upd H p o) (aset at_ r0 p) := by
  have off : ∀ r, ok r → r ≠ r0 → aset at_ r0 p r = at_ r ∧ at_ r ≠ p := fun r hr n => ⟨aset_ne n, fun z => by
    obtain ⟨u, e⟩ := t.trk r hr
    rw [z, h] at e
    cases e⟩
  refine ⟨fun r r' hr hr' e => ?_, fun r hr => ?_, fun r hr => ?_, fun b hb => t.grow b (upd_free hb), t.keep.new h⟩
  · by_cases a : r = r0 <;> by_cases b : r' = r0
    · rw [a, b]
    · subst a
      have hb := hr'.resolve_right b
      rw [aset_same, (off r' hb b).1] at e
      exact absurd e.symm (off r' hb b).2
    · subst b
      have ha := hr.resolve_right a
      rw [aset_same, (off r ha a).1] at e
      exact absurd e (off r ha a).2
    · have ha := hr.resolve_right a
      have hb := hr'.resolve_right b
      rw [(off r ha a).1, (off r' hb b).1] at e
      exact t.inj _ _ ha hb e
  · by_cases a : r = r0
    · subst a
      rw [aset_same, upd_same]
      exact ⟨_, rfl⟩
    · have ha := hr.resolve_right a
      obtain ⟨u, e⟩ := t.trk r ha
      rw [(off r ha a).1, upd_ne (off r ha a).2]
      exact ⟨u, e⟩
  · by_cases a : r = r0
    · subst a
      rw [aset_same]
      exact .inr (t.grow p h)
    · have ha := hr.resolve_right a
      rw [(off r ha a).1]
      exact t.new r ha
theorem Pt.temp (t : Pt x H0 ok H at_) {p : Addr} (h : H p = none) (o : HO) : Pt x H0 ok (upd H p o) at_ := by
  refine ⟨t.inj, fun r hr => ?_, t.new, fun b hb => t.grow b (upd_free hb), t.keep.new h⟩
  obtain ⟨u, e⟩ := t.trk r hr
  exact ⟨u, same_new h _ _ e⟩
theorem Pt.put (t : Pt x H0 ok H at_) {r0 : Rl} (h0 : ok r0) (o : HO) : Pt x H0 ok (upd H (at_ r0) o) at_ := by
  refine ⟨t.inj, fun r hr => ?_, t.new, fun b hb => t.grow b (upd_free hb), ?_⟩
  · by_cases a : at_ r = at_ r0
    · rw [a, upd_same]
      exact ⟨_, rfl⟩
    · rw [upd_ne a]
      exact t.trk r hr
  · rcases t.new r0 h0 with z | z
    · exact t.keep.put z
    · exact t.keep.put' z
theorem Pt.sub (t : Pt x H0 ok H at_) (h : ∀ r, ok' r → ok r) : Pt x H0 ok' H at_ := ⟨fun r r' a b => t.inj r r' (h r a) (h r' b), fun r a => t.trk r (h r a), fun r a => t.new r (h r a), t.grow, t.keep⟩
/-- a place of the parts is none of what is new -/
theorem Pt.ne (t : Pt x H0 ok H at_) {r : Rl} (hr : ok r) {p : Addr} (h : H p = none) : at_ r ≠ p := fun z => by
  obtain ⟨u, e⟩ := t.trk r hr
  rw [z, h] at e
  cases e
end
/-- dicts by distinct hands -/
theorem valV_mk {f : Int → V} : ∀ {hs : List Int} {h : Int}, h ∈ hs → valV (hs.map fun g => ((Sum.inl g : Key), f g)) (.inl h : Key) = some (f h)
  | g :: r, h, hh => by
    rw [List.map_cons]
    by_cases e : g = h
    · subst e
      exact valV_pos rfl
    · rw [valV_neg (p := (_, _)) (fun z => e (Sum.inl.inj z))]
      exact valV_mk ((List.mem_cons.mp hh).resolve_left fun z => e z.symm)
theorem dictOf_mk {f : Int → V} (hs : List Int) : DictOf hs (hs.map fun g => ((Sum.inl g : Key), f g)) f :=
  ⟨by rw [List.map_map]; rfl, fun _ hh => valV_mk hh⟩
theorem put_mk {f : Int → V} {hs : List Int} {h : Int} (hh : h ∉ hs) (v : V) : putK (hs.map fun g => ((Sum.inl g : Key), f g)) (.inl h : Key) v = (hs.map fun g => ((Sum.inl g : Key), f g)) ++ [(.inl h, v)] := by
  refine putK_new _ (valV_none fun z => ?_)
  rw [List.map_map] at z
  obtain ⟨g, hg, e⟩ := List.mem_map.mp z
  have : g = h := Sum.inl.inj e
  exact hh (this ▸ hg)
/-- a dict D that grows by hands, a new object for each -/
structure DL (x : Addr) (H0 HA : Hp) (ok : Rl → Prop) (at0 : Rl → Addr) (rD : Rl) (r0 : Int → Rl) (con : Int → HO) (hs : List Int) (H : Hp) (at_ : Rl → Addr) : Prop where
  pt : Pt x H0 (fun r => ok r ∨ ∃ h ∈ hs, r = r0 h) H at_
  dD : H (at0 rD) = some (.dK (hs.map fun h => ((Sum.inl h : Key), V.ref (at_ (r0 h)))))
  ls : ∀ h ∈ hs, H (at_ (r0 h)) = some (con h)
  same : ∀ b o, HA b = some o → b ≠ at0 rD → H b = some o
  old : ∀ r, ok r → at_ r = at0 r
theorem DL.step {x : Addr} {H0 HA : Hp} {ok : Rl → Prop} {at0 : Rl → Addr} {rD : Rl} {r0 : Int → Rl} {con : Int → HO} {hs : List Int} {H : Hp} {at_ : Rl → Addr} (d : DL x H0 HA ok at0 rD r0 con hs H at_)
    (okD : ok rD) {h : Int} (hh : h ∉ hs) (r0i : ∀ g, r0 g = r0 h → g = h) (r0D : ∀ g, r0 g ≠ rD) (nok : ¬ ok (r0 h)) {p : Addr} (np : H p = none) :
    DL x H0 HA ok at0 rD r0 con (hs ++ [h]) (upd (upd H p (con h)) (at0 rD) (.dK (putK (hs.map fun h => ((Sum.inl h : Key), V.ref (at_ (r0 h)))) (.inl h : Key) (.ref p)))) (aset at_ (r0 h) p) := by
  have eD : at_ rD = at0 rD := d.old rD okD
  have nD : at0 rD ≠ p := by
    rw [← eD]
    exact d.pt.ne (.inl okD) np
  have gne : ∀ g ∈ hs, r0 g ≠ r0 h := fun g hg z => hh (r0i g z ▸ hg)
  have neD : ∀ g ∈ hs, at_ (r0 g) ≠ at0 rD := fun g hg z => by
    rw [← eD] at z
    exact r0D g (d.pt.inj _ _ (.inr ⟨g, hg, rfl⟩) (.inl okD) z)
  have oldne : ∀ r, ok r → r ≠ r0 h := fun r hr z => nok (z ▸ hr)
  have pt1 := d.pt.add np (r0 h) (con h)
  have eD1 : aset at_ (r0 h) p rD = at0 rD := (aset_ne (oldne rD okD)).trans eD
  refine ⟨?_, ?_, fun g hg => ?_, fun b o e nb => ?_, fun r hr => (aset_ne (oldne r hr)).trans (d.old r hr)⟩
  · have pt2 := pt1.put (r0 := rD) (.inl (.inl okD)) (.dK (putK (hs.map fun h => ((Sum.inl h : Key), V.ref (at_ (r0 h)))) (.inl h : Key) (.ref p)))
    rw [eD1] at pt2
    refine pt2.sub fun r hr => ?_
    rcases hr with z | ⟨g, hg, z⟩
    · exact .inl (.inl z)
    · rcases List.mem_append.mp hg with w | w
      · exact .inl (.inr ⟨g, w, z⟩)
      · simp at w
        exact .inr (by rw [z, w])
  · rw [upd_same, put_mk hh, List.map_append]
    have e1 : (hs.map fun g => ((Sum.inl g : Key), V.ref (at_ (r0 g)))) = hs.map fun g => ((Sum.inl g : Key), V.ref (aset at_ (r0 h) p (r0 g))) :=
      List.map_congr_left fun g hg => by rw [aset_ne (gne g hg)]
    rw [e1]
    simp [aset_same]
  · rcases List.mem_append.mp hg with w | w
    · rw [aset_ne (gne g w), upd_ne (neD g w), upd_ne (d.pt.ne (.inr ⟨g, w, rfl⟩) np)]
      exact d.ls g w
    · simp at w
      subst w
      rw [aset_same, upd_ne (Ne.symm nD), upd_same]
  · have := d.same b o e nb
    rw [upd_ne nb, upd_ne (ne_of_none this np)]
    exact this
/-- the value of a hand in a row -/
def valOf (ps : List (Int × Int)) (h : Int) : Int := ((ps.find? fun p => decide (p.1 = h)).map (·.2)).getD 0
theorem valOf_at {ps : List (Int × Int)} (hn : (ps.map (·.1)).Nodup) {p : Int × Int} (hp : p ∈ ps) : valOf ps p.1 = p.2 := by
  unfold valOf
  induction ps with
  | nil => exact absurd hp (by simp)
  | cons a r ih =>
    rw [List.map_cons, List.nodup_cons] at hn
    by_cases e : a.1 = p.1
    · rcases List.mem_cons.mp hp with z | z
      · subst z
        simp
      · exact absurd (List.mem_map_of_mem (f := (·.1)) z) (by rw [← e]; exact hn.1)
    · rw [List.find?_cons, decide_eq_false e]
      rcases List.mem_cons.mp hp with z | z
      · exact absurd (by rw [z]) e
      · exact ih hn.2 z
/-- the state at first -/
def CS.zero (ps : List (Int × Int)) : CS where
  vw := fun h => [(.int (valOf ps h), 0)]
  nx := fun _ => (ps.length : Int) + 1
  fd := fun _ => []
  wr := fun _ => true
  cl := fun _ _ => none
  dn := []
def Lay.of (at_ : Rl → Addr) (dx : Addr) (row : V) : Lay := ⟨at_ .ins, dx, row, at_ .av, at_ .ac, at_ .an, at_ .af, at_ .aw, at_ .ad, fun h => at_ (.vl h), fun h => at_ (.fl h), fun t => at_ (.ct t)⟩
theorem Lay.of_at (at_ : Rl → Addr) (dx : Addr) (row : V) : ∀ r, (Lay.of at_ dx row).at r = at_ r := fun r => by cases r <;> rfl
theorem pf1 {a b : V} : putF "rounds" b (putF "row" a []) = ([("row", a), ("rounds", b)] : List (Str × V)) := by rfl
theorem pf2 {a b c : V} : putF "many" c ([("row", a), ("rounds", b)] : List (Str × V)) = ([("row", a), ("rounds", b), ("many", c)] : List (Str × V)) := by rfl
theorem pf3 {a b c d : V} : putF "_views" d ([("row", a), ("rounds", b), ("many", c)] : List (Str × V)) = ([("row", a), ("rounds", b), ("many", c), ("_views", d)] : List (Str × V)) := by rfl
theorem pf4 {a b c d e : V} : putF "_cells" e ([("row", a), ("rounds", b), ("many", c), ("_views", d)] : List (Str × V)) = ([("row", a), ("rounds", b), ("many", c), ("_views", d), ("_cells", e)] : List (Str × V)) := by rfl
theorem pf5 {a b c d e f : V} : putF "_next" f ([("row", a), ("rounds", b), ("many", c), ("_views", d), ("_cells", e)] : List (Str × V)) = ([("row", a), ("rounds", b), ("many", c), ("_views", d), ("_cells", e), ("_next", f)] : List (Str × V)) := by rfl
theorem pf6 {a b c d e f g : V} : putF "_found" g ([("row", a), ("rounds", b), ("many", c), ("_views", d), ("_cells", e), ("_next", f)] : List (Str × V)) = ([("row", a), ("rounds", b), ("many", c), ("_views", d), ("_cells", e), ("_next", f), ("_found", g)] : List (Str × V)) := by rfl
theorem pf7 {a b c d e f g h : V} : putF "_writing" h ([("row", a), ("rounds", b), ("many", c), ("_views", d), ("_cells", e), ("_next", f), ("_found", g)] : List (Str × V)) = ([("row", a), ("rounds", b), ("many", c), ("_views", d), ("_cells", e), ("_next", f), ("_found", g), ("_writing", h)] : List (Str × V)) := by rfl
theorem pf8 {a b c d e f g h i : V} : putF "_done" i ([("row", a), ("rounds", b), ("many", c), ("_views", d), ("_cells", e), ("_next", f), ("_found", g), ("_writing", h)] : List (Str × V)) = ([("row", a), ("rounds", b), ("many", c), ("_views", d), ("_cells", e), ("_next", f), ("_found", g), ("_writing", h), ("_done", i)] : List (Str × V)) := by rfl
end Wl
namespace Wl
open PySem PySem.Spec PyProof.Rows L2
/-- a list D that grows by rounds, a new dict for each -/
structure CL (x : Addr) (H0 HA : Hp) (ok : Rl → Prop) (at0 : Rl → Addr) (n : Nat) (H : Hp) (at_ : Rl → Addr) : Prop where
  pt : Pt x H0 (fun r => ok r ∨ ∃ t, t < n ∧ r = .ct t) H at_
  dD : H (at0 .ac) = some (.lst ((List.range n).map fun t => V.ref (at_ (.ct t))))
  ls : ∀ t, t < n → H (at_ (.ct t)) = some (.dK [])
  same : ∀ b o, HA b = some o → b ≠ at0 .ac → H b = some o
  old : ∀ r, ok r → at_ r = at0 r
theorem CL.step {x : Addr} {H0 HA : Hp} {ok : Rl → Prop} {at0 : Rl → Addr} {n : Nat} {H : Hp} {at_ : Rl → Addr} (d : CL x H0 HA ok at0 n H at_) (okD : ok .ac) (nok : ¬ ok (.ct n)) {p : Addr} (np : H p = none) :
    CL x H0 HA ok at0 (n + 1) (upd (upd H p (.dK [])) (at0 .ac) (.lst (((List.range n).map fun t => V.ref (at_ (.ct t))) ++ [.ref p]))) (aset at_ (.ct n) p) := by
  have eD : at_ .ac = at0 .ac := d.old _ okD
  have nD : at0 .ac ≠ p := by
    rw [← eD]
    exact d.pt.ne (.inl okD) np
  have tne : ∀ t, t < n → Rl.ct t ≠ Rl.ct n := fun t ht z => by have := Rl.ct.inj z; omega
  have neD : ∀ t, t < n → at_ (.ct t) ≠ at0 .ac := fun t ht z => by
    rw [← eD] at z
    exact nomatch d.pt.inj _ _ (.inr ⟨t, ht, rfl⟩) (.inl okD) z
  have oldne : ∀ r, ok r → r ≠ .ct n := fun r hr z => nok (z ▸ hr)
  have pt1 := d.pt.add np (.ct n) (.dK [])
  have eD1 : aset at_ (.ct n) p .ac = at0 .ac := (aset_ne (oldne _ okD)).trans eD
  refine ⟨?_, ?_, fun t ht => ?_, fun b o e nb => ?_, fun r hr => (aset_ne (oldne r hr)).trans (d.old r hr)⟩
  · have pt2 := pt1.put (r0 := .ac) (.inl (.inl okD)) (.lst (((List.range n).map fun t => V.ref (at_ (.ct t))) ++ [.ref p]))
    rw [eD1] at pt2
    refine pt2.sub fun r hr => ?_
    rcases hr with z | ⟨t, ht, z⟩
    · exact .inl (.inl z)
    · by_cases w : t < n
      · exact .inl (.inr ⟨t, w, z⟩)
      · exact .inr (by rw [z, show t = n by omega])
  · rw [upd_same, List.range_succ, List.map_append]
    have e1 : ((List.range n).map fun t => V.ref (at_ (.ct t))) = (List.range n).map fun t => V.ref (aset at_ (.ct n) p (.ct t)) :=
      List.map_congr_left fun t ht => by rw [aset_ne (tne t (List.mem_range.mp ht))]
    rw [e1]
    simp [aset_same]
  · by_cases w : t < n
    · rw [aset_ne (tne t w), upd_ne (neD t w), upd_ne (d.pt.ne (.inr ⟨t, w, rfl⟩) np)]
      exact d.ls t w
    · have : t = n := by omega
      subst this
      rw [aset_same, upd_ne (Ne.symm nD), upd_same]
  · have := d.same b o e nb
    rw [upd_ne nb, upd_ne (ne_of_none this np)]
    exact this
/-- what stands at each place at first -/
def conOf (ps : List (Int × Int)) (R : Nat) (at_ : Rl → Addr) : Rl → HO
  | .av => .dK ((ps.map (·.1)).map fun h => ((Sum.inl h : Key), V.ref (at_ (.vl h))))
  | .ac => .lst ((List.range R).map fun t => V.ref (at_ (.ct t)))
  | .an => .dK ((ps.map (·.1)).map fun h => ((Sum.inl h : Key), V.int ((ps.length : Int) + 1)))
  | .af => .dK ((ps.map (·.1)).map fun h => ((Sum.inl h : Key), V.ref (at_ (.fl h))))
  | .aw => .dK ((ps.map (·.1)).map fun h => ((Sum.inl h : Key), V.bl true))
  | .vl h => .lst [.int (valOf ps h)]
  | .ct _ => .dK []
  | _ => .lst []
structure Sg (C x dx : Addr) (H0 : Hp) (ps : List (Int × Int)) (R : Nat) (ok : Rl → Prop) (H : Hp) (at_ : Rl → Addr) (fs : List (Str × V)) : Prop where
  pt : Pt x H0 ok H at_
  con : ∀ r, ok r → r ≠ .ins → H (at_ r) = some (conOf ps R at_ r)
  cv : ok .av → ∀ h ∈ ps.map (·.1), ok (.vl h)
  cf : ok .af → ∀ h ∈ ps.map (·.1), ok (.fl h)
  cc : ok .ac → ∀ t, t < R → ok (.ct t)
  oi : ok .ins
  ai : at_ .ins = x
  ins : H x = some (.ins C dx fs)
section
variable {C x dx : Addr} {H0 : Hp} {ps : List (Int × Int)} {R : Nat} {ok : Rl → Prop} {H : Hp} {at_ : Rl → Addr} {fs : List (Str × V)}
theorem conOf_eq {at' : Rl → Addr} (cv : ok .av → ∀ h ∈ ps.map (·.1), ok (.vl h)) (cf : ok .af → ∀ h ∈ ps.map (·.1), ok (.fl h)) (cc : ok .ac → ∀ t, t < R → ok (.ct t)) (old : ∀ r, ok r → at' r = at_ r) {r : Rl} (hr : ok r) : conOf ps R at' r = conOf ps R at_ r := by
  cases r with
  | av => exact congrArg HO.dK (List.map_congr_left fun h hh => by rw [old _ (cv hr h hh)])
  | af => exact congrArg HO.dK (List.map_congr_left fun h hh => by rw [old _ (cf hr h hh)])
  | ac => exact congrArg HO.lst (List.map_congr_left fun t ht => by rw [old _ (cc hr t (List.mem_range.mp ht))])
  | _ => rfl
theorem Sg.field (s : Sg C x dx H0 ps R ok H at_ fs) (fs' : List (Str × V)) : Sg C x dx H0 ps R ok (upd H x (.ins C dx fs')) at_ fs' := by
  have p := s.pt.put s.oi (.ins C dx fs')
  rw [s.ai] at p
  refine ⟨p, fun r hr nr => ?_, s.cv, s.cf, s.cc, s.oi, s.ai, upd_same⟩
  have : at_ r ≠ x := fun z => nr (s.pt.inj _ _ hr s.oi (z.trans s.ai.symm))
  rw [upd_ne this]
  exact s.con r hr nr
theorem Sg.nx (s : Sg C x dx H0 ps R ok H at_ fs) {D : Addr} (nD : H D = none) : x ≠ D := fun z => by
  rw [← z, s.ins] at nD
  cases nD
theorem Sg.dl (s : Sg C x dx H0 ps R ok H at_ fs) {D : Addr} (nD : H D = none) {rD : Rl} {r0 : Int → Rl} {con : Int → HO} {H' : Hp} {at' : Rl → Addr} {o : HO} (nrD : ¬ ok rD)
    (d : DL x H0 (upd H D o) (fun r => ok r ∨ r = rD) (aset at_ rD D) rD r0 con (ps.map (·.1)) H' at')
    (e1 : conOf ps R at' rD = .dK ((ps.map (·.1)).map fun h => ((Sum.inl h : Key), V.ref (at' (r0 h))))) (e2 : ∀ h, conOf ps R at' (r0 h) = con h)
    (hv : rD = .av → r0 = .vl) (hf : rD = .af → r0 = .fl) (hc : rD ≠ .ac) (hi : rD ≠ .ins) (r0s : ∀ h, r0 h ≠ .av ∧ r0 h ≠ .af ∧ r0 h ≠ .ac) :
    Sg C x dx H0 ps R (fun r => (ok r ∨ r = rD) ∨ ∃ h ∈ ps.map (·.1), r = r0 h) H' at' fs := by
  have ne : ∀ r, ok r → r ≠ rD := fun r hr z => nrD (z ▸ hr)
  have oldr : ∀ r, ok r → at' r = at_ r := fun r hr => (d.old r (.inl hr)).trans (aset_ne (ne r hr))
  have dD := d.dD
  rw [aset_same] at dD
  have eD : at' rD = D := (d.old rD (.inr rfl)).trans aset_same
  have keepo : ∀ b o', H b = some o' → H' b = some o' := fun b o' e => by
    have nb : b ≠ D := ne_of_none e nD
    exact d.same b o' (by rw [upd_ne nb]; exact e) (by rw [aset_same]; exact nb)
  refine ⟨d.pt, fun r hr nr => ?_, fun hr h hh => ?_, fun hr h hh => ?_, fun hr t ht => ?_, .inl (.inl s.oi), (oldr _ s.oi).trans s.ai, keepo _ _ s.ins⟩
  · rcases hr with (z | z) | ⟨h, hh, z⟩
    · rw [oldr r z, conOf_eq s.cv s.cf s.cc oldr z]
      exact keepo _ _ (s.con r z nr)
    · rw [z, eD, e1]
      exact dD
    · rw [z, e2]
      exact d.ls h hh
  · rcases hr with (z | z) | ⟨g, hg, z⟩
    · exact .inl (.inl (s.cv z h hh))
    · exact .inr ⟨h, hh, by rw [hv z.symm]⟩
    · exact absurd z.symm (r0s g).1
  · rcases hr with (z | z) | ⟨g, hg, z⟩
    · exact .inl (.inl (s.cf z h hh))
    · exact .inr ⟨h, hh, by rw [hf z.symm]⟩
    · exact absurd z.symm (r0s g).2.1
  · rcases hr with (z | z) | ⟨g, hg, z⟩
    · exact .inl (.inl (s.cc z t ht))
    · exact absurd z.symm hc
    · exact absurd z.symm (r0s g).2.2
theorem Sg.clist (s : Sg C x dx H0 ps R ok H at_ fs) {D : Addr} (nD : H D = none) {H' : Hp} {at' : Rl → Addr} {o : HO} (nrD : ¬ ok .ac)
    (d : CL x H0 (upd H D o) (fun r => ok r ∨ r = .ac) (aset at_ .ac D) R H' at') :
    Sg C x dx H0 ps R (fun r => (ok r ∨ r = .ac) ∨ ∃ t, t < R ∧ r = .ct t) H' at' fs := by
  have ne : ∀ r, ok r → r ≠ .ac := fun r hr z => nrD (z ▸ hr)
  have oldr : ∀ r, ok r → at' r = at_ r := fun r hr => (d.old r (.inl hr)).trans (aset_ne (ne r hr))
  have dD := d.dD
  rw [aset_same] at dD
  have eD : at' .ac = D := (d.old _ (.inr rfl)).trans aset_same
  have keepo : ∀ b o', H b = some o' → H' b = some o' := fun b o' e => by
    have nb : b ≠ D := ne_of_none e nD
    exact d.same b o' (by rw [upd_ne nb]; exact e) (by rw [aset_same]; exact nb)
  refine ⟨d.pt, fun r hr nr => ?_, fun hr h hh => ?_, fun hr h hh => ?_, fun hr t ht => ?_, .inl (.inl s.oi), (oldr _ s.oi).trans s.ai, keepo _ _ s.ins⟩
  · rcases hr with (z | z) | ⟨t, ht, z⟩
    · rw [oldr r z, conOf_eq s.cv s.cf s.cc oldr z]
      exact keepo _ _ (s.con r z nr)
    · rw [z, eD]
      exact dD
    · rw [z]
      exact d.ls t ht
  · rcases hr with (z | z) | ⟨t, ht, z⟩
    · exact .inl (.inl (s.cv z h hh))
    · exact nomatch z
    · exact nomatch z
  · rcases hr with (z | z) | ⟨t, ht, z⟩
    · exact .inl (.inl (s.cf z h hh))
    · exact nomatch z
    · exact nomatch z
  · exact .inr ⟨t, ht, rfl⟩
/-- a place without parts -/
theorem Sg.one (s : Sg C x dx H0 ps R ok H at_ fs) {D : Addr} (nD : H D = none) {rD : Rl} (nrD : ¬ ok rD) (pl : rD = .an ∨ rD = .aw ∨ rD = .ad) {o : HO} (e : conOf ps R (aset at_ rD D) rD = o) :
    Sg C x dx H0 ps R (fun r => ok r ∨ r = rD) (upd H D o) (aset at_ rD D) fs := by
  have ne : ∀ r, ok r → r ≠ rD := fun r hr z => nrD (z ▸ hr)
  have oldr : ∀ r, ok r → aset at_ rD D r = at_ r := fun r hr => aset_ne (ne r hr)
  refine ⟨s.pt.add nD rD o, fun r hr nr => ?_, fun hr h hh => ?_, fun hr h hh => ?_, fun hr t ht => ?_, .inl s.oi, (oldr _ s.oi).trans s.ai, same_new nD _ _ s.ins⟩
  · rcases hr with z | z
    · rw [oldr r z, conOf_eq s.cv s.cf s.cc oldr z]
      exact same_new nD _ _ (s.con r z nr)
    · rw [z, aset_same, upd_same, e]
  · rcases hr with z | z
    · exact .inl (s.cv z h hh)
    · rcases pl with w | w | w <;> rw [w] at z <;> exact nomatch z
  · rcases hr with z | z
    · exact .inl (s.cf z h hh)
    · rcases pl with w | w | w <;> rw [w] at z <;> exact nomatch z
  · rcases hr with z | z
    · exact .inl (s.cc z t ht)
    · rcases pl with w | w | w <;> rw [w] at z <;> exact nomatch z
/-- all places made -/
theorem Sg.fin (s : Sg C x dx H0 ps R ok H at_ (cFlds (Lay.of at_ dx v) (ps.map (·.1)).length R)) (all : ∀ r, Rl.ok (ps.map (·.1)) R r → ok r) (rok : RowOk ps) (le : ps.length ≤ 4) (rle : R ≤ 6) (tr : Tr H v (rowD ps)) :
    CellsAt C H ps R (Lay.of at_ dx v) (CS.zero ps) := by
  have ea := Lay.of_at at_ dx v
  refine ⟨fun r hr => ?_, fun r r' hr hr' z => ?_, (fun t h x e => nomatch e), fun h e he => absurd he (by simp [CS.zero]), fun h hh m e he => absurd he (by simp [CS.zero]), fun h hh => ⟨by simp [CS.zero], by simp [CS.zero]⟩, tr, rok, le, rle⟩
  · rw [ea]
    by_cases ri : r = .ins
    · subst ri
      rw [s.ai]
      show H x = _
      exact s.ins
    · have z := s.con r (all r hr) ri
      cases r with
      | ins => exact absurd rfl ri
      | av => exact ⟨_, z, dictOf_mk _⟩
      | ac => exact z
      | an => exact ⟨_, z, dictOf_mk _⟩
      | af => exact ⟨_, z, dictOf_mk _⟩
      | aw => exact ⟨_, z, dictOf_mk _⟩
      | ad => exact z
      | vl h => exact z
      | fl h => exact z
      | ct t => exact ⟨_, z, List.nodup_nil, fun k hk => absurd hk (by simp), fun h => rfl⟩
  · rw [ea, ea] at z
    exact s.pt.inj _ _ (all r hr) (all r' hr') z
end
end Wl

set_option maxRecDepth 100000
namespace Wl
open PySem PySem.Spec PyProof.Rows L2
section
variable {C x dx : Addr} {H0 : Hp} {ps : List (Int × Int)} {R : Nat} {ok : Rl → Prop} {H : Hp} {at_ : Rl → Addr} {fs : List (Str × V)}
theorem DL.start (t : Pt x H0 ok H at_) {D : Addr} (nD : H D = none) {rD : Rl} {r0 : Int → Rl} {con : Int → HO} : DL x H0 (upd H D (.dK [])) (fun r => ok r ∨ r = rD) (aset at_ rD D) rD r0 con [] (upd H D (.dK [])) (aset at_ rD D) := by
  refine ⟨(t.add nD rD (.dK [])).sub fun r hr => ?_, ?_, fun h hh => absurd hh (by simp), fun b o e _ => e, fun r _ => rfl⟩
  · rcases hr with z | ⟨h, hh, _⟩
    · exact z
    · exact absurd hh (by simp)
  · rw [aset_same, upd_same]
    rfl
theorem CL.start (t : Pt x H0 ok H at_) {D : Addr} (nD : H D = none) : CL x H0 (upd H D (.lst [])) (fun r => ok r ∨ r = .ac) (aset at_ .ac D) 0 (upd H D (.lst [])) (aset at_ .ac D) := by
  refine ⟨(t.add nD .ac (.lst [])).sub fun r hr => ?_, ?_, fun h hh => absurd hh (by omega), fun b o e _ => e, fun r _ => rfl⟩
  · rcases hr with z | ⟨h, hh, _⟩
    · exact z
    · omega
  · rw [aset_same, upd_same]
    rfl
theorem Sg.tups (s : Sg C x dx H0 ps R ok H at_ fs) {fs0 : List (Str × V)} (e0 : H0 x = some (.ins C dx fs0)) : Tups H0 H := fun b xs e => s.pt.keep b _ e fun z => by
  rw [z, e0] at e
  cases e
end
theorem keepX_tups {C x dx : Addr} {H H' : Hp} {fs : List (Str × V)} (e0 : H x = some (.ins C dx fs)) (k : Keep (fun b => b = x) H H') : Tups H H' := fun b xs e => k b _ e fun z => by
  rw [z, e0] at e
  cases e
theorem take_hand {ps : List (Int × Int)} {i : Nat} {p : Int × Int} (e : ps[i]? = some p) : (ps.map (·.1)).take (i + 1) = (ps.map (·.1)).take i ++ [p.1] := by
  rw [List.take_add_one, List.getElem?_map, e]
  rfl
theorem hand_new {ps : List (Int × Int)} (up : (ps.map (·.1)).Pairwise (· < ·)) {i : Nat} {p : Int × Int} (e : ps[i]? = some p) : p.1 ∉ (ps.map (·.1)).take i := fun z => by
  obtain ⟨j, hj, ej⟩ := List.mem_iff_getElem.mp z
  rw [List.length_take] at hj
  rw [List.getElem_take] at ej
  have h2 : (ps.map (·.1))[j]? = some p.1 := by rw [← ej]; exact List.getElem?_eq_getElem (by omega)
  have := pw_get up (i := j) (j := i) (by omega) h2 (by rw [List.getElem?_map, e]; rfl)
  exact absurd this (Int.lt_irrefl _)
theorem nodup_of_lt {l : List Int} (h : l.Pairwise (· < ·)) : l.Nodup := h.imp fun a => by omega
section
variable {P : Program} {w : World} {K : PySem.W.Frag} {mg : Str → Option Value} {base : Heap}
theorem pf1' {a b : V} : putF "rounds" b ([("row", a)] : List (Str × V)) = ([("row", a), ("rounds", b)] : List (Str × V)) := by rfl
def spInit (C : Addr) : Sp := fun vs H Q _ => ∃ (x dx : Addr) (v : V) (R : Nat) (ps : List (Int × Int)), vs = [.ref x, v, .int R] ∧ H x = some (.ins C dx []) ∧ Tr H v (rowD ps) ∧ RowOk ps ∧ ps.length ≤ 4 ∧ R ≤ 6 ∧
  ∀ (H' : Hp) (L : Lay), L.p = x → CellsAt C H' ps R L (CS.zero ps) → Keep (fun b => b = x) H H' → (∀ b, Ftp (ps.map (·.1)) R L b → b = x ∨ H b = none) → (∀ b, H' b = none → H b = none) → Q .non H'
set_option maxHeartbeats 4000000 in
theorem ok_Cells___init__ (T : Tx K mg) : FnOk P w K mg base CX0 5 T.f_Cells___init__.a T.f_Cells___init__.d ["self", "row", "rounds"] (spInit T.C_Cells) := by
  refine T.f_Cells___init__.F.ok sc_Cells___init__ (fun vs H Q E h => ?_) (fun cdv A outer s H vs Q E hr h => ?_)
  · obtain ⟨x, dx, v, R, ps, rfl, _⟩ := h
    rfl
  · obtain ⟨x, dx, v, R, ps, rfl, ex, tr, rok, le, rle, q⟩ := h
    obtain ⟨a, xs, rfl, ea, tra⟩ := id tr.inv
    have hxl := tra.len
    rw [List.length_map] at hxl
    have hn := nodup_of_lt rok.up
    refine ⟨_, (pss_cons (ps_expr (pe_call (ok_need_row T) (hr.mono (by decide)) (by rfl) T.f_need_row.g T.f_need_row.F.kp T.f_need_row.b .nil pass0 (pa_cons (pv 1) pa_nil)))
      (pss_cons (ps_expr (pe_call (ok_need_rounds T) (hr.mono (by decide)) (by rfl) T.f_need_rounds.g T.f_need_rounds.F.kp T.f_need_rounds.b .nil pass0 (pa_cons (pv 2) (pa_cons (pe_cst rfl T.g_MOST_ROUNDS) pa_nil))))
      (pss_cons (ps_asg (pe_tup (pa_cons (pv 1) (pa_cons (pv 2) (pa_cons (pe_callB (k_len (K := K) rfl) (by rfl) T.n_len PySem.boot_len (pa_cons (pv 1) pa_nil)) pa_nil)))) (pg_ktup (K := K) (n := 3) rfl rfl (pgs_cons (pg_fld (pv 0)) (pgs_cons (pg_fld (pv 0)) (pgs_cons (pg_fld (pv 0)) pgs_nil)))))
      (pss_cons (ps_fld (pv 0) (pe_dc (own := [("hand", 3), ("value", 4)]) rfl sc_Cells___init__.nd (pi_tup (pv 1)) (blkOk_by (N := ["self", "row", "rounds", "hand", "value", "turn"]) (sc := defScope s_Cells___init__) (by decide +kernel)) (fun _ _ _ _ _ => (pg_ktup (K := K) (n := 2) rfl rfl (pgs_cons (pg_name (i := 3) sc_Cells___init__.nd rfl (.inl rfl)) (pgs_cons (pg_name (i := 4) sc_Cells___init__.nd rfl (.inl rfl)) pgs_nil)))) (fun _ _ _ _ _ => pts_nil) (fun _ _ _ _ _ => (pv 3)) (fun _ _ _ _ _ => (pe_lst (pa_cons (pv 4) pa_nil)))) rfl)
      (pss_cons (ps_fld (pv 0) (pe_lc (own := [("turn", 5)]) rfl sc_Cells___init__.nd (pi_range1 (by rfl) T.n_range (pa_cons (pv 2) pa_nil)) (blkOk_by (N := ["self", "row", "rounds", "hand", "value", "turn"]) (sc := defScope s_Cells___init__) (by decide +kernel)) (fun _ _ _ _ _ => (pg_name (i := 5) sc_Cells___init__.nd rfl (.inl rfl))) (fun _ _ _ _ _ => pts_nil) (fun _ _ _ _ _ => pe_dnewK)) rfl)
      (pss_cons (ps_fld (pv 0) (pe_dc (own := [("hand", 3), ("value", 4)]) rfl sc_Cells___init__.nd (pi_tup (pv 1)) (blkOk_by (N := ["self", "row", "rounds", "hand", "value", "turn"]) (sc := defScope s_Cells___init__) (by decide +kernel)) (fun _ _ _ _ _ => (pg_ktup (K := K) (n := 2) rfl rfl (pgs_cons (pg_name (i := 3) sc_Cells___init__.nd rfl (.inl rfl)) (pgs_cons (pg_name (i := 4) sc_Cells___init__.nd rfl (.inl rfl)) pgs_nil)))) (fun _ _ _ _ _ => pts_nil) (fun _ _ _ _ _ => (pv 3)) (fun _ _ _ _ _ => (pe_op op_add (pe_kfld (K := K) rfl (pv 0) rfl) pe_int))) rfl)
      (pss_cons (ps_fld (pv 0) (pe_dc (own := [("hand", 3), ("value", 4)]) rfl sc_Cells___init__.nd (pi_tup (pv 1)) (blkOk_by (N := ["self", "row", "rounds", "hand", "value", "turn"]) (sc := defScope s_Cells___init__) (by decide +kernel)) (fun _ _ _ _ _ => (pg_ktup (K := K) (n := 2) rfl rfl (pgs_cons (pg_name (i := 3) sc_Cells___init__.nd rfl (.inl rfl)) (pgs_cons (pg_name (i := 4) sc_Cells___init__.nd rfl (.inl rfl)) pgs_nil)))) (fun _ _ _ _ _ => pts_nil) (fun _ _ _ _ _ => (pv 3)) (fun _ _ _ _ _ => (pe_lst pa_nil))) rfl)
      (pss_cons (ps_fld (pv 0) (pe_dc (own := [("hand", 3), ("value", 4)]) rfl sc_Cells___init__.nd (pi_tup (pv 1)) (blkOk_by (N := ["self", "row", "rounds", "hand", "value", "turn"]) (sc := defScope s_Cells___init__) (by decide +kernel)) (fun _ _ _ _ _ => (pg_ktup (K := K) (n := 2) rfl rfl (pgs_cons (pg_name (i := 3) sc_Cells___init__.nd rfl (.inl rfl)) (pgs_cons (pg_name (i := 4) sc_Cells___init__.nd rfl (.inl rfl)) pgs_nil)))) (fun _ _ _ _ _ => pts_nil) (fun _ _ _ _ _ => (pv 3)) (fun _ _ _ _ _ => pe_bl)) rfl)
      (pss_one (ps_fld (pv 0) (pe_lst pa_nil) rfl)))))))))), ?_⟩
    refine ⟨_, rfl, .ref a, ps, rfl, tr, rok, fun H1 s1 => ?_⟩
    refine ⟨_, rfl, R, 6, rfl, by omega, by omega, ?_⟩
    have ex1 := s1 _ _ ex
    have ea1 := s1 _ _ ea
    have p0 : Pt x H1 (fun r => r = .ins) H1 (fun _ => x) := ⟨fun r r' h h' _ => h.trans h'.symm, fun r _ => ⟨_, ex1⟩, fun r _ => .inl rfl, fun b h => h, Keep.rfl'⟩
    have g0 : Sg T.C_Cells x dx H1 ps R (fun r => r = .ins) H1 (fun _ => x) [] := ⟨p0, fun r h n => absurd h n, (fun h => nomatch h), (fun h => nomatch h), (fun h => nomatch h), rfl, rfl, ex1⟩
    -- row, rounds, many
    refine ⟨_, rfl, _, rfl, _, rfl, a, xs, rfl, .inr (SqT.of ea1), by show 3 ≤ sizeLine; decide, fun t nt => ?_⟩
    have ext := same_new (o := .tup [.ref a, .int R, .int xs.length]) nt _ _ ex1
    refine ⟨t, _, rfl, SqT.of upd_same, rfl, _, _, rfl, ?_⟩
    have g1 : Sg T.C_Cells x dx H1 ps R (fun r => r = .ins) (upd H1 t (.tup [.ref a, .int R, .int xs.length])) (fun _ => x) [] := ⟨p0.temp nt _, fun r h n => absurd h n, (fun h => nomatch h), (fun h => nomatch h), (fun h => nomatch h), rfl, rfl, ext⟩
    have g2 := ((g1.field [("row", .ref a)]).field [("row", .ref a), ("rounds", .int R)]).field [("row", .ref a), ("rounds", .int R), ("many", .int xs.length)]
    refine ⟨_, rfl, x, T.C_Cells, dx, _, rfl, ext, T.c_Cells, T.na_Cells_row, by show 0 < 1000; decide, _, _, rfl, ?_⟩
    refine ⟨_, rfl, x, T.C_Cells, dx, _, rfl, upd_same, T.c_Cells, T.na_Cells_rounds, by show 1 < 1000; decide, _, _, rfl, ?_⟩
    refine ⟨_, rfl, x, T.C_Cells, dx, _, rfl, upd_same, T.c_Cells, T.na_Cells_many, by show 2 < 1000; decide, rfl, ?_⟩
    rw [show putF "row" (V.ref a) [] = ([("row", .ref a)] : List (Str × V)) from rfl, pf1', pf2]
    generalize eH2 : upd (upd (upd (upd H1 t (.tup [.ref a, .int R, .int xs.length])) x _) x _) x _ = H2 at g2 ⊢
    -- _views
    have tp : ∀ {ok H' at_ fs}, Sg T.C_Cells x dx H1 ps R ok H' at_ fs → Tups H H' := fun g => (same_tups s1).trans (g.tups ex1)
    have small : ∀ {f : Int → V} {i : Nat}, (((ps.map (·.1)).take i).map fun h => ((Sum.inl h : Key), f h)).length < sizeLine := fun {f i} => by
      rw [List.length_map, List.length_take, List.length_map]
      exact small1000 (by omega)
    refine ⟨_, rfl, a, rfl, ⟨_, SqT.of (tp g2 _ _ ea)⟩, fun D nD => dc_tup (K := K) (a := a) (xs := xs) (fun i H' => ∃ at', DL x H1 (upd H2 D (.dK [])) (fun r => r = .ins ∨ r = .av) (aset (fun _ => x) .av D) .av .vl (fun h => .lst [.int (valOf ps h)]) ((ps.map (·.1)).take i) H' at')
      ⟨_, DL.start g2.pt nD⟩ (fun i H' _ ⟨at', d⟩ => SqT.of ((same_tups s1).trans (keepX_tups ex1 d.pt.keep) _ _ ea)) ?_ ?_⟩
    · rintro i y H' hy ⟨at', d⟩
      obtain ⟨p, q2, hp, rfl, eq⟩ := row_at (tra.mono ((same_tups s1).trans (keepX_tups ex1 d.pt.keep))) hy
      have dD := d.dD
      rw [aset_same] at dD
      refine ⟨q2, _, rfl, SqT.of eq, rfl, _, _, rfl, _, _, rfl, rfl, rfl, _, rfl, _, rfl, by show 1 ≤ sizeLine; decide, fun l nl => ?_⟩
      have nDl : D ≠ l := ne_of_none dD nl
      refine ⟨_, .inl p.1, rfl, same_new nl _ _ dD, small, aset at' (.vl p.1) l, ?_⟩
      have st := d.step (.inr rfl) (hand_new rok.up hp) (fun g z => Rl.vl.inj z) (fun g z => nomatch z) (fun z => z.elim (fun z => nomatch z) fun z => nomatch z) nl
      rw [aset_same, valOf_at hn (List.mem_of_getElem? hp), ← take_hand hp] at st
      exact st
    rintro H3 ⟨at3, d3⟩
    have htk : (ps.map (·.1)).take xs.length = ps.map (·.1) := List.take_of_length_le (by rw [List.length_map]; omega)
    rw [htk] at d3
    have g3 := g2.dl nD (rD := .av) (r0 := .vl) (fun z => nomatch z) d3 rfl (fun h => rfl) (fun _ => rfl) (fun z => nomatch z) (fun z => nomatch z) (fun z => nomatch z) (fun h => ⟨(fun z => nomatch z), (fun z => nomatch z), (fun z => nomatch z)⟩)
    have eD3 : at3 .av = D := (d3.old .av (.inr rfl)).trans aset_same
    refine ⟨_, rfl, x, T.C_Cells, dx, _, rfl, g3.ins, T.c_Cells, T.na_Cells__views, by show 3 < 1000; decide, ?_⟩
    rw [pf3]
    replace g3 := g3.field [("row", .ref a), ("rounds", .int R), ("many", .int xs.length), ("_views", .ref D)]
    generalize eH4 : upd H3 x _ = H4 at g3 ⊢
    -- _cells
    refine ⟨_, rfl, R, rfl, by omega, by omega, fun D2 nD2 => lc_range (lo := 0) (n := R) (fun i H' => ∃ at', CL x H1 (upd H4 D2 (.lst [])) _ (aset at3 .ac D2) i H' at') ⟨_, CL.start g3.pt nD2⟩ ?_ ?_⟩
    · rintro i H' hi ⟨at', d⟩
      have dD := d.dD
      rw [aset_same] at dD
      refine ⟨rfl, fun l nl => ?_⟩
      have nDl : D2 ≠ l := ne_of_none dD nl
      refine ⟨_, same_new nl _ _ dD, ?_, aset at' (.ct i) l, ?_⟩
      · rw [List.length_map, List.length_range]
        exact small1000 (by omega)
      have st := d.step (.inr rfl) (fun z => z.elim (fun z => z.elim (fun z => z.elim (fun z => nomatch z) fun z => nomatch z) fun ⟨_, _, z⟩ => nomatch z) fun z => nomatch z) nl
      rw [aset_same] at st
      exact st
    rintro H5 ⟨at5, d5⟩
    have g5 := g3.clist nD2 (fun z => z.elim (fun z => z.elim (fun z => nomatch z) fun z => nomatch z) fun ⟨_, _, z⟩ => nomatch z) d5
    have eD5 : at5 .ac = D2 := (d5.old .ac (.inr rfl)).trans aset_same
    have eD5v : at5 .av = D := (d5.old .av (.inl (.inl (.inr rfl)))).trans ((aset_ne (r := .av) (r0 := .ac) (fun z => nomatch z)).trans eD3)
    refine ⟨_, rfl, x, T.C_Cells, dx, _, rfl, g5.ins, T.c_Cells, T.na_Cells__cells, by show 4 < 1000; decide, ?_⟩
    rw [pf4]
    replace g5 := g5.field [("row", .ref a), ("rounds", .int R), ("many", .int xs.length), ("_views", .ref D), ("_cells", .ref D2)]
    generalize eH6 : upd H5 x _ = H6 at g5 ⊢
    -- _next
    refine ⟨_, rfl, a, rfl, ⟨_, SqT.of (tp g5 _ _ ea)⟩, fun D3 nD3 => dc_tup (K := K) (a := a) (xs := xs) (fun i H' => H' = upd H6 D3 (.dK (((ps.map (·.1)).take i).map fun h => ((Sum.inl h : Key), V.int ((ps.length : Int) + 1)))))
      rfl (fun i H' _ e => SqT.of (by rw [e, upd_ne (ne_of_none (tp g5 _ _ ea) nD3)]; exact tp g5 _ _ ea)) ?_ ?_⟩
    · rintro i y H' hy rfl
      obtain ⟨p, q2, hp, rfl, eq⟩ := row_at (tra.mono ((tp g5).trans (Tups.new (p := D3) (o := .dK (((ps.map (·.1)).take i).map fun h => ((Sum.inl h : Key), V.int ((ps.length : Int) + 1)))) nD3))) hy
      refine ⟨q2, _, rfl, SqT.of eq, rfl, _, _, rfl, _, _, rfl, rfl, rfl, _, rfl, _, rfl, x, T.C_Cells, dx, _, _, rfl, same_new nD3 _ _ g5.ins, T.c_Cells, T.na_Cells_many, rfl, _, 1, rfl, rfl, ?_⟩
      refine ⟨_, .inl p.1, rfl, upd_same, small, ?_⟩
      rw [upd_upd, put_mk (hand_new rok.up hp), take_hand hp, List.map_append, hxl]
      rfl
    rintro H7 rfl
    rw [htk]
    have g7 := g5.one nD3 (rD := .an) (fun z => z.elim (fun z => z.elim (fun z => z.elim (fun z => z.elim (fun z => nomatch z) fun z => nomatch z) fun ⟨_, _, z⟩ => nomatch z) fun z => nomatch z) fun ⟨_, _, z⟩ => nomatch z) (.inl rfl) (o := .dK ((ps.map (·.1)).map fun h => ((Sum.inl h : Key), V.int ((ps.length : Int) + 1)))) rfl
    refine ⟨_, rfl, x, T.C_Cells, dx, _, rfl, g7.ins, T.c_Cells, T.na_Cells__next, by show 5 < 1000; decide, ?_⟩
    rw [pf5]
    replace g7 := g7.field [("row", .ref a), ("rounds", .int R), ("many", .int xs.length), ("_views", .ref D), ("_cells", .ref D2), ("_next", .ref D3)]
    generalize eH8 : upd (upd H6 D3 _) x _ = H8 at g7 ⊢
    have eD7 : aset at5 .an D3 .an = D3 := aset_same
    have eD7v : aset at5 .an D3 .av = D := (aset_ne (r := .av) (r0 := .an) (fun z => nomatch z)).trans eD5v
    have eD7c : aset at5 .an D3 .ac = D2 := (aset_ne (r := .ac) (r0 := .an) (fun z => nomatch z)).trans eD5
    generalize eat7 : aset at5 .an D3 = at7 at g7 eD7 eD7v eD7c
    -- _found
    refine ⟨_, rfl, a, rfl, ⟨_, SqT.of (tp g7 _ _ ea)⟩, fun D4 nD4 => dc_tup (K := K) (a := a) (xs := xs) (fun i H' => ∃ at', DL x H1 (upd H8 D4 (.dK [])) _ (aset at7 .af D4) .af .fl (fun h => .lst []) ((ps.map (·.1)).take i) H' at')
      ⟨_, DL.start g7.pt nD4⟩ (fun i H' _ ⟨at', d⟩ => SqT.of ((same_tups s1).trans (keepX_tups ex1 d.pt.keep) _ _ ea)) ?_ ?_⟩
    · rintro i y H' hy ⟨at', d⟩
      obtain ⟨p, q2, hp, rfl, eq⟩ := row_at (tra.mono ((same_tups s1).trans (keepX_tups ex1 d.pt.keep))) hy
      have dD := d.dD
      rw [aset_same] at dD
      refine ⟨q2, _, rfl, SqT.of eq, rfl, _, _, rfl, _, _, rfl, rfl, rfl, _, rfl, Nat.zero_le _, fun l nl => ?_⟩
      have nDl : D4 ≠ l := ne_of_none dD nl
      refine ⟨_, .inl p.1, rfl, same_new nl _ _ dD, small, aset at' (.fl p.1) l, ?_⟩
      have st := d.step (.inr rfl) (hand_new rok.up hp) (fun g z => Rl.fl.inj z) (fun g z => nomatch z) (fun z => by
        rcases z with ((((((z | z) | ⟨_, _, z⟩) | z) | ⟨_, _, z⟩) | z) | z) <;> exact nomatch z) nl
      rw [aset_same, ← take_hand hp] at st
      exact st
    rintro H9 ⟨at9, d9⟩
    rw [htk] at d9
    have g9 := g7.dl nD4 (rD := .af) (r0 := .fl) (fun z => by
        rcases z with (((((z | z) | ⟨_, _, z⟩) | z) | ⟨_, _, z⟩) | z) <;> exact nomatch z) d9 rfl (fun h => rfl) (fun z => nomatch z) (fun _ => rfl) (fun z => nomatch z) (fun z => nomatch z) (fun h => ⟨(fun z => nomatch z), (fun z => nomatch z), (fun z => nomatch z)⟩)
    have eD9 : at9 .af = D4 := (d9.old .af (.inr rfl)).trans aset_same
    have old9 : ∀ r, ((((((r = .ins ∨ r = .av) ∨ ∃ h ∈ ps.map (·.1), r = .vl h) ∨ r = .ac) ∨ ∃ t, t < R ∧ r = .ct t) ∨ r = .an)) → r ≠ .af → at9 r = at7 r := fun r hr n => (d9.old r (.inl hr)).trans (aset_ne n)
    have eD9v : at9 .av = D := (old9 .av (.inl (.inl (.inl (.inl (.inr rfl))))) (fun z => nomatch z)).trans eD7v
    have eD9c : at9 .ac = D2 := (old9 .ac (.inl (.inl (.inr rfl))) (fun z => nomatch z)).trans eD7c
    have eD9n : at9 .an = D3 := (old9 .an (.inr rfl) (fun z => nomatch z)).trans eD7
    refine ⟨_, rfl, x, T.C_Cells, dx, _, rfl, g9.ins, T.c_Cells, T.na_Cells__found, by show 6 < 1000; decide, ?_⟩
    rw [pf6]
    replace g9 := g9.field [("row", .ref a), ("rounds", .int R), ("many", .int xs.length), ("_views", .ref D), ("_cells", .ref D2), ("_next", .ref D3), ("_found", .ref D4)]
    generalize eH10 : upd H9 x _ = H10 at g9 ⊢
    -- _writing
    refine ⟨_, rfl, a, rfl, ⟨_, SqT.of (tp g9 _ _ ea)⟩, fun D5 nD5 => dc_tup (K := K) (a := a) (xs := xs) (fun i H' => H' = upd H10 D5 (.dK (((ps.map (·.1)).take i).map fun h => ((Sum.inl h : Key), V.bl true))))
      rfl (fun i H' _ e => SqT.of (by rw [e, upd_ne (ne_of_none (tp g9 _ _ ea) nD5)]; exact tp g9 _ _ ea)) ?_ ?_⟩
    · rintro i y H' hy rfl
      obtain ⟨p, q2, hp, rfl, eq⟩ := row_at (tra.mono ((tp g9).trans (Tups.new (p := D5) (o := .dK (((ps.map (·.1)).take i).map fun h => ((Sum.inl h : Key), V.bl true))) nD5))) hy
      refine ⟨q2, _, rfl, SqT.of eq, rfl, _, _, rfl, _, _, rfl, rfl, rfl, _, rfl, ?_⟩
      refine ⟨_, .inl p.1, rfl, upd_same, small, ?_⟩
      rw [upd_upd, put_mk (hand_new rok.up hp), take_hand hp, List.map_append]
      rfl
    rintro H11 rfl
    rw [htk]
    have g11 := g9.one nD5 (rD := .aw) (fun z => by
        rcases z with (((((((z | z) | ⟨_, _, z⟩) | z) | ⟨_, _, z⟩) | z) | z) | ⟨_, _, z⟩) <;> exact nomatch z) (.inr (.inl rfl)) (o := .dK ((ps.map (·.1)).map fun h => ((Sum.inl h : Key), V.bl true))) rfl
    refine ⟨_, rfl, x, T.C_Cells, dx, _, rfl, g11.ins, T.c_Cells, T.na_Cells__writing, by show 7 < 1000; decide, ?_⟩
    rw [pf7]
    replace g11 := g11.field [("row", .ref a), ("rounds", .int R), ("many", .int xs.length), ("_views", .ref D), ("_cells", .ref D2), ("_next", .ref D3), ("_found", .ref D4), ("_writing", .ref D5)]
    generalize eH12 : upd (upd H10 D5 _) x _ = H12 at g11 ⊢
    -- _done
    refine ⟨Nat.zero_le _, fun D6 nD6 => ?_⟩
    have g13 := g11.one nD6 (rD := .ad) (fun z => by
        rcases z with ((((((((z | z) | ⟨_, _, z⟩) | z) | ⟨_, _, z⟩) | z) | z) | ⟨_, _, z⟩) | z) <;> exact nomatch z) (.inr (.inr rfl)) (o := .lst []) rfl
    refine ⟨_, rfl, x, T.C_Cells, dx, _, rfl, g13.ins, T.c_Cells, T.na_Cells__done, by show 8 < 1000; decide, ?_⟩
    rw [pf8]
    replace g13 := g13.field [("row", .ref a), ("rounds", .int R), ("many", .int xs.length), ("_views", .ref D), ("_cells", .ref D2), ("_next", .ref D3), ("_found", .ref D4), ("_writing", .ref D5), ("_done", .ref D6)]
    have c1 : aset (aset at9 .aw D5) .ad D6 .av = D := (aset_ne (r := .av) (r0 := .ad) (fun z => nomatch z)).trans ((aset_ne (r := .av) (r0 := .aw) (fun z => nomatch z)).trans eD9v)
    have c2 : aset (aset at9 .aw D5) .ad D6 .ac = D2 := (aset_ne (r := .ac) (r0 := .ad) (fun z => nomatch z)).trans ((aset_ne (r := .ac) (r0 := .aw) (fun z => nomatch z)).trans eD9c)
    have c3 : aset (aset at9 .aw D5) .ad D6 .an = D3 := (aset_ne (r := .an) (r0 := .ad) (fun z => nomatch z)).trans ((aset_ne (r := .an) (r0 := .aw) (fun z => nomatch z)).trans eD9n)
    have c4 : aset (aset at9 .aw D5) .ad D6 .af = D4 := (aset_ne (r := .af) (r0 := .ad) (fun z => nomatch z)).trans ((aset_ne (r := .af) (r0 := .aw) (fun z => nomatch z)).trans eD9)
    have c5 : aset (aset at9 .aw D5) .ad D6 .aw = D5 := (aset_ne (r := .aw) (r0 := .ad) (fun z => nomatch z)).trans aset_same
    have c6 : aset (aset at9 .aw D5) .ad D6 .ad = D6 := aset_same
    generalize aset (aset at9 .aw D5) .ad D6 = atf at g13 c1 c2 c3 c4 c5 c6
    subst c1 c2 c3 c4 c5 c6
    have key : cFlds (Lay.of atf dx (.ref a)) (ps.map (·.1)).length R = ([("row", .ref a), ("rounds", .int R), ("many", .int xs.length), ("_views", .ref (atf .av)), ("_cells", .ref (atf .ac)), ("_next", .ref (atf .an)), ("_found", .ref (atf .af)), ("_writing", .ref (atf .aw)), ("_done", .ref (atf .ad))] : List (Str × V)) := by
      rw [List.length_map, ← hxl]
      rfl
    rw [← key] at g13 ⊢
    have hall : ∀ r, Rl.ok (ps.map (·.1)) R r → _ := fun r hr => (show ((((((((((r = .ins ∨ r = .av) ∨ ∃ h ∈ ps.map (·.1), r = .vl h) ∨ r = .ac) ∨ ∃ t, t < R ∧ r = .ct t) ∨ r = .an) ∨ r = .af) ∨ ∃ h ∈ ps.map (·.1), r = .fl h) ∨ r = .aw) ∨ r = .ad)) from by
      cases r with
      | ins => simp
      | av => simp
      | ac => simp
      | an => simp
      | af => simp
      | aw => simp
      | ad => simp
      | vl h => exact .inl (.inl (.inl (.inl (.inl (.inl (.inl (.inr ⟨h, hr, rfl⟩)))))))
      | fl h => exact .inl (.inl (.inr ⟨h, hr, rfl⟩))
      | ct t => exact .inl (.inl (.inl (.inl (.inl (.inr ⟨t, hr, rfl⟩))))))
    have cf := g13.fin hall rok le rle (tr.mono (tp g13))
    refine q _ _ g13.ai cf ((Keep.of s1).trans g13.pt.keep) (fun b hb => ?_) fun b hb => s1.free (g13.pt.grow b hb)
    obtain ⟨r, hr, rfl⟩ := hb
    rw [Lay.of_at]
    rcases g13.pt.new r (hall r hr) with z | z
    · exact .inl z
    · exact .inr (s1.free z)
end
end Wl


set_option maxRecDepth 100000
namespace Wl
open PySem PySem.Spec PyProof.Rows L2
/-- what a step tells -/
inductive Wd where
  | w (t : Nat) (l : Int)
  | r (t : Nat) (g : Int) (e : En)
def Wd.its : Wd → List V
  | .w t l => [.str "write", .int ((t : Int) + 1), .int l]
  | .r t g e => [.str "read", .int ((t : Int) + 1), .int g, enV e]
def CS.did (S : CS) (h : Int) : CS := { S with dn := S.dn ++ [h] }
/-- one step of a hand in round t -/
inductive StepTo (hs : List Int) (S : CS) (h : Int) (t : Nat) : Wd → CS → Prop
  | w (p : Addr) : S.wr h = true → StepTo hs S h t (.w t (S.nx h - 1)) ((S.did h).wrt h t p)
  | r (g : Int) (S' : CS) : S.wr h = false → hs[(S.fd h).length]? = some g → Rd1 hs.length (S.did h) h (S.cl t g) S' → StepTo hs S h t (.r t g (S.cl t g)) S'
section
variable {P : Program} {w : World} {K : PySem.W.Frag} {mg : Str → Option Value} {base : Heap}
theorem rd1_len {n m : Nat} {S : CS} {h : Int} {e : En} {S' : CS} (x : n = m) (r : Rd1 n S h e S') : Rd1 m S h e S' := by
  subst x
  exact r
def spStep (C : Addr) : Sp := fun vs H Q _ => ∃ (ps : List (Int × Int)) (R : Nat) (L : Lay) (S : CS) (h : Int), vs = [.ref L.p, .int h] ∧ CellsAt C H ps R L S ∧ h ∈ ps.map (·.1) ∧
  (((S.vw h).length = R + 1 ∧ ∀ H', Same H H' → Q .non H') ∨
  ∃ t : Nat, t + 1 = (S.vw h).length ∧ t < R ∧ S.dn.length < 1000 ∧ (S.wr h = false → (S.fd h).length < ps.length) ∧
    ∀ (H' : Hp) (L' : Lay) (S' : CS) (wd : Wd) (u : Addr), Moved (ps.map (·.1)) R H L H' L' → L'.p = L.p → H u = none → H' u = some (.tup wd.its) → CellsAt C H' ps R L' S' → StepTo (ps.map (·.1)) S h t wd S' → Q (.ref u) H')
theorem ok_Cells_step (T : Tx K mg) : FnOk P w K mg base CX0 5 T.f_Cells_step.a T.f_Cells_step.d ["self", "hand"] (spStep T.C_Cells) := by
  refine T.f_Cells_step.F.ok sc_Cells_step (fun vs H Q E h => ?_) (fun cdv A outer s H vs Q E hr h => ?_)
  · obtain ⟨ps, R, L, S, h, rfl, _⟩ := h
    rfl
  · obtain ⟨ps, R, L, S, h, rfl, c, hh, q⟩ := h
    have hv := c.v0 h hh
    have hv1 : 0 < (S.vw h).length := List.length_pos_iff.mpr hv.1
    refine ⟨_, (pss_cons (ps_expr (pe_call (ok_need_one_of T) (hr.mono (by decide)) (by rfl) T.f_need_one_of.g T.f_need_one_of.F.kp T.f_need_one_of.b .nil pass0 (pa_cons (pe_call (ok_hands_by T) (hr.mono (by decide)) (by rfl) T.f_hands_by.g T.f_hands_by.F.kp T.f_hands_by.b .nil pass0 (pa_cons (pe_kfld (K := K) rfl (pv 0) rfl) pa_nil)) (pa_cons (pv 1) pa_nil))))
      (pss_cons (ps_set (i := 2) sc_Cells_step.nd rfl (.inl rfl) (pe_op op_sub (pe_callB (k_len (K := K) rfl) (by rfl) T.n_len PySem.boot_len (pa_cons (pe_dget (hu_of hr) (pe_kfld (K := K) rfl (pv 0) rfl) (pv 1) (fun _ _ => rfl)) pa_nil)) pe_int))
      (pss_cons (ps_if (pt_cmpR op_eq (pv 2) (pe_kfld (K := K) rfl (pv 0) rfl) (nomark _)) (pss_one (ps_ret pe_non)) pss_nil)
      (pss_cons (ps_expr (pe_kbm (K := K) rfl PySem.F.plainAttrs_list PySem.F.slot_list_append PySem.F.type_list_append mt_append (pe_kfld (K := K) rfl (pv 0) rfl) (pa_cons (pv 1) pa_nil)))
      (pss_one (ps_ret (pe_ifExp (pt_val (pe_dget (hu_of hr) (pe_kfld (K := K) rfl (pv 0) rfl) (pv 1) (fun _ _ => rfl))) (pe_meth (pv 0) T.c_Cells T.f_Cells__write.m (ok_Cells__write T) (hr.mono (by decide)) T.f_Cells__write.b .nil pass0 (pa_cons (pv 1) (pa_cons (pv 2) pa_nil))) (pe_meth (pv 0) T.c_Cells T.f_Cells__read.m (ok_Cells__read T) (hr.mono (by decide)) T.f_Cells__read.b .nil pass0 (pa_cons (pv 1) (pa_cons (pv 2) pa_nil)))))))))), ?_⟩
    refine ⟨_, rfl, L.p, T.C_Cells, L.dx, _, _, rfl, c.ins, T.c_Cells, T.na_Cells_row, lk_row, L.row, ps, rfl, c.row, Nat.le_trans c.le (by decide), fun H1 a s1 na ea => ?_⟩
    refine ⟨_, rfl, a, ps.map (·.1), h, rfl, SqT.of ea, hh, (c.hand hh).1, (c.hand hh).2, ?_⟩
    have c1 := c.same s1
    have ci := c1.ins
    refine ⟨_, rfl, L.p, T.C_Cells, L.dx, _, _, rfl, ci, T.c_Cells, T.na_Cells__views, lk__views, _, rfl, L.av, _, rfl, c1.gv hh, L.vl h, _, rfl, .inl (SqL.of (c1.lv hh)), _, 1, rfl, rfl, ?_⟩
    rw [List.length_map]
    refine ⟨_, rfl, _, rfl, L.p, T.C_Cells, L.dx, _, _, rfl, ci, T.c_Cells, T.na_Cells_rounds, lk_rounds, rfl, ?_⟩
    rcases q with ⟨eR, q⟩ | ⟨t, ht, htR, hd, hf, q⟩
    · refine ⟨true, congrArg V.bl (decide_eq_true (by rw [eR]; exact congrArg V.int (by omega))), iteT ?_⟩
      exact q H1 s1
    · refine ⟨false, congrArg V.bl (decide_eq_false (fun z => by have := V.int.inj z; omega)), iteF ?_⟩
      have et : ((S.vw h).length : Int) - 1 = (t : Int) := by omega
      dsimp only
      rw [et]
      -- done
      refine ⟨_, rfl, L.p, T.C_Cells, L.dx, _, _, rfl, ci, T.c_Cells, T.na_Cells__done, lk__done, .inl ⟨rfl, _, SqL.of c1.ld⟩, _, rfl, L.ad, _, _, rfl, rfl, c1.ld, ?_, ?_⟩
      · rw [List.length_map]
        exact small1000 (by omega)
      have c2 : CellsAt T.C_Cells _ ps R L (S.did h) := c1.addD h
      have m2 : Moved (ps.map (·.1)) R H L (upd H1 L.ad (.lst (S.dn.map V.int ++ [.int h]))) L := (Moved.of s1).trans (Moved.put (r := .ad) True.intro)
      generalize eH2 : upd H1 L.ad _ = H2 at c2 m2
      have ci2 := c2.ins
      refine ⟨_, rfl, L.p, T.C_Cells, L.dx, _, _, rfl, ci2, T.c_Cells, T.na_Cells__writing, lk__writing, _, rfl, L.aw, _, rfl, c2.gw hh, S.wr h, rfl, ?_⟩
      cases ew : S.wr h with
      | true =>
        refine iteT ⟨_, rfl, L.p, L.dx, _, rfl, ci2, rfl, _, rfl, _, rfl, ps, R, L, S.did h, h, t, rfl, c2, hh, ht, htR, fun H' L' u p m3 ep nu eu c3 => ?_⟩
        exact q H' L' _ (.w t (S.nx h - 1)) u (m2.trans m3) ep (m2.free u nu) eu c3 (.w p ew)
      | false =>
        have hl := hf ew
        have hg : (ps.map (·.1))[(S.fd h).length]? = some ((ps.map (·.1))[(S.fd h).length]'(by rw [List.length_map]; exact hl)) := List.getElem?_eq_getElem _
        refine iteF ⟨_, rfl, L.p, L.dx, _, rfl, ci2, rfl, _, rfl, _, rfl, ps, R, L, S.did h, h, t, _, rfl, c2, hh, ht, htR, hg, fun H' u S' m3 nu eu c3 rd => ?_⟩
        refine q H' L S' (.r t _ (S.cl t _)) u (m2.trans m3) rfl (m2.free u nu) eu c3 (.r _ S' ew hg ?_)
        exact rd1_len (List.length_map (as := ps) (fun p : Int × Int => p.1)).symm rd
end
end Wl


set_option maxRecDepth 100000
/-! The plain law: hands that go down levels, round by round. -/
namespace Wl
open PySem PySem.Spec PyProof.Rows L2
def Wd.t : Wd → Nat
  | .w t _ => t
  | .r t _ _ => t
def Wd.lv : Wd → Option Int
  | .w _ l => some l
  | .r .. => none
def Wd.en : Wd → Option En
  | .w .. => none
  | .r _ _ e => some e
def rnd (t : Nat) (ws : List Wd) : List Wd := ws.filter fun x => decide (x.t = t)
def wrs (t : Nat) (ws : List Wd) : List Int := (rnd t ws).filterMap Wd.lv
def down (n k : Nat) : List Int := (List.range k).map fun i => (n : Int) - (i : Nat)
def lev (n : Nat) (S : CS) (t : Nat) (h : Int) : Int :=
  match S.cl t h with
  | none => (n : Int) + 1
  | some x => x.2
theorem rnd_same {t : Nat} {ws : List Wd} {x : Wd} (h : x.t = t) : rnd t (ws ++ [x]) = rnd t ws ++ [x] := by
  unfold rnd
  rw [List.filter_append, List.filter_cons, decide_eq_true h]
  rfl
theorem rnd_ne {t : Nat} {ws : List Wd} {x : Wd} (h : x.t ≠ t) : rnd t (ws ++ [x]) = rnd t ws := by
  unfold rnd
  rw [List.filter_append, List.filter_cons, decide_eq_false h]
  simp
theorem wrs_ne {t : Nat} {ws : List Wd} {x : Wd} (h : x.t ≠ t) : wrs t (ws ++ [x]) = wrs t ws := by
  unfold wrs
  rw [rnd_ne h]
theorem wrs_w {t : Nat} {ws : List Wd} {l : Int} : wrs t (ws ++ [.w t l]) = wrs t ws ++ [l] := by
  unfold wrs
  rw [rnd_same (t := t) (x := .w t l) rfl, List.filterMap_append]
  rfl
theorem wrs_r {t : Nat} {ws : List Wd} {g : Int} {e : En} : wrs t (ws ++ [.r t g e]) = wrs t ws := by
  unfold wrs
  rw [rnd_same (t := t) (x := .r t g e) rfl, List.filterMap_append]
  exact List.append_nil _
theorem rnd_none {t : Nat} {ws : List Wd} (h : ∀ x ∈ ws, x.t ≠ t) : rnd t ws = [] := by
  unfold rnd
  rw [List.filter_eq_nil_iff]
  exact fun x hx => by simpa using h x hx
theorem down_succ {n k : Nat} : down n (k + 1) = down n k ++ [(n : Int) - k] := by
  unfold down
  rw [List.range_succ, List.map_append]
  rfl
/-- where a hand stands within its round -/
def Ph (n R : Nat) (S : CS) (h : Int) (t k : Nat) (ws : List Wd) : Prop :=
  (S.wr h = true ∧ k < n ∧ (rnd t ws).length = k * (n + 1) ∧ ws.length ≤ t * (n * (n + 1)) + k * (n + 1)) ∨
  (S.wr h = false ∧ t < R ∧ (S.fd h).length < n ∧ ∃ j, k = j + 1 ∧ (rnd t ws).length = j * (n + 1) + 1 + (S.fd h).length ∧ ws.length ≤ t * (n * (n + 1)) + (j * (n + 1) + 1 + (S.fd h).length))
structure HandI (n R : Nat) (S : CS) (h : Int) (t : Nat) (ws : List Wd) : Prop where
  et : t + 1 = (S.vw h).length
  le : t ≤ R
  fut : ∀ t', t < t' → S.cl t' h = none
  old : ∀ x ∈ ws, x.t ≤ t
  cur : ∃ k, k ≤ n ∧ S.nx h = (n : Int) + 1 - (k : Nat) ∧ wrs t ws = down n k ∧ lev n S t h = S.nx h ∧ Ph n R S h t k ws
  ended : ∀ t', t' < t → ∃ (k : Nat) (v : V) (s : Nat), 0 < k ∧ k ≤ n ∧ (S.vw h)[t' + 1]? = some (v, s) ∧ s + k = n + 1 ∧ wrs t' ws = down n k ∧ (rnd t' ws).length = k * (n + 1)
  tail : ∃ pre rds : List Wd, ws = pre ++ rds ∧ rds.map Wd.en = (S.fd h).map some
  full : S.wr h = true → ws = [] ∨ (S.fd h).length = n
  cnt : S.dn.count h = ws.length
/-- but for h all stays -/
structure Off (S S' : CS) (h : Int) : Prop where
  vw : ∀ g, g ≠ h → S'.vw g = S.vw g
  nx : ∀ g, g ≠ h → S'.nx g = S.nx g
  fd : ∀ g, g ≠ h → S'.fd g = S.fd g
  wr : ∀ g, g ≠ h → S'.wr g = S.wr g
  cl : ∀ t g, g ≠ h → S'.cl t g = S.cl t g
  dn : S'.dn = S.dn ++ [h]
theorem lev_congr {n : Nat} {S S' : CS} {t : Nat} {g : Int} (h : S'.cl t g = S.cl t g) : lev n S' t g = lev n S t g := by
  unfold lev
  rw [h]
theorem HandI.off {n R : Nat} {S S' : CS} {h g : Int} {t : Nat} {ws : List Wd} (o : Off S S' h) (ne : g ≠ h) (i : HandI n R S g t ws) : HandI n R S' g t ws where
  et := by rw [o.vw g ne]; exact i.et
  le := i.le
  fut := fun t' ht => by rw [o.cl t' g ne]; exact i.fut t' ht
  old := i.old
  cur := by
    unfold Ph
    rw [o.nx g ne, lev_congr (o.cl t g ne), o.wr g ne, o.fd g ne]
    exact i.cur
  ended := by rw [o.vw g ne]; exact i.ended
  tail := by rw [o.fd g ne]; exact i.tail
  full := by rw [o.fd g ne, o.wr g ne]; exact i.full
  cnt := by
    rw [o.dn, List.count_append, i.cnt, List.count_singleton]
    rw [if_neg (by simpa using fun z => ne z.symm)]
    rfl
def low (hs : List Int) (S : CS) (t : Nat) (L : Int) : Nat := hs.countP fun h => decide (lev hs.length S t h ≤ L)
/-- one that stands at a full level -/
def Wit (hs : List Int) (S : CS) (w : Int) (t : Nat) (L : Int) : Prop :=
  t + 1 < (S.vw w).length ∨ (t + 1 = (S.vw w).length ∧ S.wr w = false ∧ ∀ (i : Nat) (g : Int) (e : En), hs[i]? = some g → (S.fd w)[i]? = some e → lev hs.length S t g ≤ L → cond L e = true)
structure CInv (hs : List Int) (R : Nat) (S : CS) (ws : Int → List Wd) : Prop where
  hand : ∀ h ∈ hs, ∃ t, HandI hs.length R S h t (ws h)
  rd : ∀ h ∈ hs, ∀ t, t + 1 = (S.vw h).length → S.wr h = false → ∀ (i : Nat) (g : Int) (e : En), hs[i]? = some g → (S.fd h)[i]? = some e →
    (∀ L, cond L e = true → lev hs.length S t g ≤ L) ∧ (g = h → cond (S.nx h) e = true)
  one : ∀ (t L : Nat), low hs S t L ≤ L
  wit : ∀ (t L : Nat), 0 < L → low hs S t L = L → ∃ x ∈ hs, lev hs.length S t x = L ∧ Wit hs S x t L
  dn : ∀ x ∈ S.dn, x ∈ hs
/-! ### counting -/
theorem cnt_flip {p q : Int → Bool} {h : Int} : ∀ {l : List Int}, l.Nodup → h ∈ l → (∀ g, g ≠ h → p g = q g) → p h = false → q h = true → l.countP q = l.countP p + 1
  | x :: r, nd, hm, ag, ph, qh => by
    have nd' := List.nodup_cons.mp nd
    rw [List.countP_cons, List.countP_cons]
    by_cases e : x = h
    · subst e
      have : r.countP q = r.countP p := List.countP_congr fun g hg => by rw [ag g fun z => nd'.1 (z ▸ hg)]
      rw [this, ph, qh]
      rfl
    · rw [cnt_flip nd'.2 ((List.mem_cons.mp hm).resolve_left fun z => e z.symm) ag ph qh, ag x e]
      omega
theorem cnt_two {p q : Int → Bool} {l : List Int} (nd : l.Nodup) {h w : Int} (hh : h ∈ l) (hw : w ∈ l) (ne : h ≠ w) (le : ∀ g, p g = true → q g = true) (ph : p h = false) (pw : p w = false) (qh : q h = true) (qw : q w = true) :
    l.countP p + 2 ≤ l.countP q := by
  have e1 := cnt_flip (p := p) (q := fun g => p g || decide (g = h)) nd hh (fun g n => by simp [n]) ph (by simp)
  have e2 := cnt_flip (p := fun g => p g || decide (g = h)) (q := fun g => (p g || decide (g = h)) || decide (g = w)) nd hw (fun g n => by simp [n]) (by simp [pw, Ne.symm ne]) (by simp)
  have e3 : l.countP (fun g => (p g || decide (g = h)) || decide (g = w)) ≤ l.countP q := List.countP_mono_left fun g _ hg => by
    simp at hg
    rcases hg with (z | z) | z
    · exact le g z
    · rw [z]; exact qh
    · rw [z]; exact qw
  omega
theorem cnt_zip {α β : Type} {p : α → Bool} {q : β → Bool} : ∀ {xs : List α} {ys : List β}, xs.length = ys.length → (∀ (i : Nat) (x : α) (y : β), xs[i]? = some x → ys[i]? = some y → p x = true → q y = true) → xs.countP p ≤ ys.countP q
  | [], [], _, _ => Nat.le_refl _
  | x :: xs, y :: ys, hl, h => by
    have ih := cnt_zip (xs := xs) (ys := ys) (by simpa using hl) fun i a b ha hb => h (i + 1) a b (by simpa using ha) (by simpa using hb)
    rw [List.countP_cons, List.countP_cons]
    have h0 := h 0 x y rfl rfl
    cases e : p x with
    | false => simp; omega
    | true => rw [h0 e]; simp; omega
theorem low_le {hs : List Int} {S : CS} {t : Nat} {L : Int} : low hs S t L ≤ hs.length := List.countP_le_length
theorem len_counts : ∀ {hs l : List Int} {m : Nat}, (∀ x ∈ l, x ∈ hs) → (∀ h ∈ hs, l.count h ≤ m) → l.length ≤ hs.length * m
  | [], l, m, h1, _ => by
    cases l with
    | nil => simp
    | cons a r => exact absurd (h1 a List.mem_cons_self) (by simp)
  | h :: hs, l, m, h1, h2 => by
    have ih := len_counts (hs := hs) (l := l.filter fun x => !(x == h)) (m := m) (fun x hx => by
      rw [List.mem_filter] at hx
      exact (List.mem_cons.mp (h1 x hx.1)).resolve_left fun z => by simp [z] at hx) (fun g hg => Nat.le_trans (List.filter_sublist.count_le _) (h2 g (List.mem_cons_of_mem _ hg)))
    have e := List.length_eq_countP_add_countP (fun x => x == h) (l := l)
    have c := h2 h List.mem_cons_self
    unfold List.count at c
    rw [← List.countP_eq_length_filter] at ih
    have e2 : (l.countP fun x => !(x == h)) = l.countP fun a => decide ¬(a == h) = true := List.countP_congr fun x _ => by simp
    rw [e2] at ih
    rw [List.length_cons, Nat.succ_mul]
    omega
end Wl

set_option maxRecDepth 100000
namespace Wl
open PySem PySem.Spec PyProof.Rows L2
theorem HandI.uniq {n R : Nat} {S : CS} {h : Int} {t t' : Nat} {ws : List Wd} (i : HandI n R S h t' ws) (e : t + 1 = (S.vw h).length) : HandI n R S h t ws := by
  have : t' = t := by have := i.et; omega
  subst this
  exact i
theorem offWrt {S : CS} {h : Int} {t : Nat} {p : Addr} : Off S ((S.did h).wrt h t p) h where
  vw := fun g n => rfl
  nx := fun g n => fset_ne n
  fd := fun g n => fset_ne n
  wr := fun g n => fset_ne n
  cl := fun t' g n => if_neg fun z => n z.2
  dn := rfl
/-- the hand that writes -/
theorem HandI.wrt {n R : Nat} {S : CS} {h : Int} {t : Nat} {ws : List Wd} {p : Addr} (i : HandI n R S h t ws) (hw : S.wr h = true) (hR : t < R) : HandI n R ((S.did h).wrt h t p) h t (ws ++ [.w t (S.nx h - 1)]) where
  et := i.et
  le := i.le
  fut := fun t' ht => (if_neg fun z => by omega).trans (i.fut t' ht)
  old := fun x hx => by
    rcases List.mem_append.mp hx with z | z
    · exact i.old x z
    · simp at z
      rw [z]
      exact Nat.le_refl _
  cur := by
    obtain ⟨k, hk, hn, hws, hl, ph⟩ := i.cur
    have hnx : ((S.did h).wrt h t p).nx h = S.nx h - 1 := fset_same
    have hfd : ((S.did h).wrt h t p).fd h = [] := fset_same
    have hwr : ((S.did h).wrt h t p).wr h = false := fset_same
    rcases ph with ⟨_, hkn, hr, ht⟩ | ⟨z, _⟩
    · refine ⟨k + 1, hkn, by rw [hnx]; omega, ?_, ?_, .inr ⟨hwr, hR, by rw [hfd]; exact Nat.lt_of_le_of_lt (Nat.zero_le _) hkn, k, rfl, ?_, ?_⟩⟩
      · rw [wrs_w, hws, down_succ, hn]
        exact congrArg (fun z => down n k ++ [z]) (by omega)
      · rw [hnx]
        unfold lev
        rw [show ((S.did h).wrt h t p).cl t h = some (p, S.nx h - 1) from if_pos ⟨rfl, rfl⟩]
      · rw [rnd_same (t := t) (x := .w t (S.nx h - 1)) rfl, List.length_append, hr, hfd]
        rfl
      · rw [List.length_append, hfd]
        show ws.length + 1 ≤ t * (n * (n + 1)) + (k * (n + 1) + 1 + 0)
        omega
    · rw [hw] at z
      cases z
  ended := fun t' ht => by
    obtain ⟨k, v, s, a, b, c, d, e, f⟩ := i.ended t' ht
    exact ⟨k, v, s, a, b, c, d, by rw [wrs_ne (x := .w t (S.nx h - 1)) (by show t ≠ t'; omega)]; exact e, by rw [rnd_ne (x := .w t (S.nx h - 1)) (by show t ≠ t'; omega)]; exact f⟩
  tail := ⟨ws ++ [.w t (S.nx h - 1)], [], (List.append_nil _).symm, by rw [show ((S.did h).wrt h t p).fd h = [] from fset_same]; rfl⟩
  full := fun z => by
    rw [show ((S.did h).wrt h t p).wr h = false from fset_same] at z
    cases z
  cnt := by
    show (S.dn ++ [h]).count h = _
    rw [List.count_append, List.count_singleton_self, List.length_append, i.cnt]
    rfl
/-- how a hand's round goes on after a reading -/
theorem HandI.rd {n R : Nat} {S S' : CS} {h : Int} {t : Nat} {ws : List Wd} {g : Int} {e : En} (i : HandI n R S h t ws) (hw : S.wr h = false) (r : Rd1 n (S.did h) h e S')
    (n2 : (S.fd h).length + 1 = n → (countE (S.fd h ++ [e]) (S.nx h) : Int) ≠ S.nx h → 2 ≤ S.nx h) : ∃ t', HandI n R S' h t' (ws ++ [.r t g e]) := by
  obtain ⟨k, hk, hn, hws, hl, ph⟩ := i.cur
  rcases ph with ⟨z, _⟩ | ⟨_, hR, hfn, j, rfl, hr, ht⟩
  · rw [hw] at z
    cases z
  have hkl : (rnd t (ws ++ [.r t g e])).length = j * (n + 1) + 1 + ((S.fd h).length + 1) := by
    rw [rnd_same (t := t) (x := .r t g e) rfl, List.length_append, hr]
    rfl
  have hwl : (ws ++ [Wd.r t g e]).length ≤ t * (n * (n + 1)) + (j * (n + 1) + 1 + ((S.fd h).length + 1)) := by
    rw [List.length_append]
    show ws.length + 1 ≤ _
    omega
  have hold : ∀ x ∈ ws ++ [Wd.r t g e], x.t ≤ t := fun x hx => by
    rcases List.mem_append.mp hx with z | z
    · exact i.old x z
    · simp at z
      rw [z]
      exact Nat.le_refl _
  have hend : ∀ t', t' < t → ∃ (k : Nat) (v : V) (s : Nat), 0 < k ∧ k ≤ n ∧ (S.vw h)[t' + 1]? = some (v, s) ∧ s + k = n + 1 ∧ wrs t' (ws ++ [.r t g e]) = down n k ∧ (rnd t' (ws ++ [.r t g e])).length = k * (n + 1) := fun t' ht => by
    obtain ⟨k, v, s, a, b, c, d, e', f⟩ := i.ended t' ht
    exact ⟨k, v, s, a, b, c, d, by rw [wrs_ne (x := .r t g e) (by show t ≠ t'; omega)]; exact e', by rw [rnd_ne (x := .r t g e) (by show t ≠ t'; omega)]; exact f⟩
  have htail : ∃ pre rds : List Wd, ws ++ [.r t g e] = pre ++ rds ∧ rds.map Wd.en = (S.fd h ++ [e]).map some := by
    obtain ⟨pre, rds, e1, e2⟩ := i.tail
    exact ⟨pre, rds ++ [.r t g e], by rw [e1, List.append_assoc], by rw [List.map_append, List.map_append, e2]; rfl⟩
  have hcnt : (S.dn ++ [h]).count h = (ws ++ [Wd.r t g e]).length := by
    rw [List.count_append, List.count_singleton_self, List.length_append, i.cnt]
    rfl
  have hwrs : wrs t (ws ++ [.r t g e]) = down n (j + 1) := by rw [wrs_r, hws]
  rcases r with ⟨hlt, rfl⟩ | ⟨hle, hne, rfl⟩ | ⟨hle, heq, v, rfl⟩
  · have hfd : ((S.did h).rd0 h e).fd h = S.fd h ++ [e] := fset_same
    refine ⟨t, i.et, i.le, i.fut, hold, ⟨j + 1, hk, hn, hwrs, hl, .inr ⟨hw, hR, ?_, j, rfl, ?_, ?_⟩⟩, hend, ?_, fun z => ?_, hcnt⟩
    · rw [hfd, List.length_append]
      exact hlt
    · rw [hfd, List.length_append]
      exact hkl
    · rw [hfd, List.length_append (as := S.fd h)]
      exact hwl
    · rw [hfd]
      exact htail
    · rw [show ((S.did h).rd0 h e).wr h = false from hw] at z
      cases z
  · have hle' : (S.fd h).length + 1 = n := hle
    have hfd : ({ (S.did h).rd0 h e with wr := fset (S.did h).wr h true } : CS).fd h = S.fd h ++ [e] := fset_same
    have h2 := n2 hle hne
    have em : (j + 1) * (n + 1) = j * (n + 1) + 1 + n := by rw [Nat.succ_mul]; omega
    refine ⟨t, i.et, i.le, i.fut, hold, ⟨j + 1, hk, hn, hwrs, hl, .inl ⟨fset_same, by omega, ?_, ?_⟩⟩, hend, ?_, fun z => ?_, hcnt⟩
    · rw [hkl, em, hle']
    · rw [em]
      rw [hle'] at hwl
      exact hwl
    · rw [hfd]
      exact htail
    · rw [hfd, List.length_append]
      exact .inr hle
  · have hle' : (S.fd h).length + 1 = n := hle
    have heq' : (countE (S.fd h ++ [e]) (S.nx h) : Int) = S.nx h := heq
    generalize hc : countE (S.fd h ++ [e]) (S.nx h) = c at heq'
    have hvw : ({ (S.did h).rd0 h e with wr := fset (S.did h).wr h true, vw := fset (S.did h).vw h ((S.did h).vw h ++ [(v, countE ((S.did h).fd h ++ [e]) ((S.did h).nx h))]), nx := fset (S.did h).nx h ((n : Int) + 1) } : CS).vw h = S.vw h ++ [(v, c)] := by
      rw [← hc]
      exact fset_same
    have hfd : ({ (S.did h).rd0 h e with wr := fset (S.did h).wr h true, vw := fset (S.did h).vw h ((S.did h).vw h ++ [(v, countE ((S.did h).fd h ++ [e]) ((S.did h).nx h))]), nx := fset (S.did h).nx h ((n : Int) + 1) } : CS).fd h = S.fd h ++ [e] := fset_same
    have hnx : ({ (S.did h).rd0 h e with wr := fset (S.did h).wr h true, vw := fset (S.did h).vw h ((S.did h).vw h ++ [(v, countE ((S.did h).fd h ++ [e]) ((S.did h).nx h))]), nx := fset (S.did h).nx h ((n : Int) + 1) } : CS).nx h = (n : Int) + 1 := fset_same
    have hwr : ({ (S.did h).rd0 h e with wr := fset (S.did h).wr h true, vw := fset (S.did h).vw h ((S.did h).vw h ++ [(v, countE ((S.did h).fd h ++ [e]) ((S.did h).nx h))]), nx := fset (S.did h).nx h ((n : Int) + 1) } : CS).wr h = true := fset_same
    have em : (j + 1) * (n + 1) = j * (n + 1) + 1 + n := by rw [Nat.succ_mul]; omega
    have en : (j + 1) * (n + 1) ≤ n * (n + 1) := Nat.mul_le_mul_right _ hk
    have et := i.et
    have hnone : rnd (t + 1) (ws ++ [.r t g e]) = [] := rnd_none fun x hx => by have := hold x hx; omega
    refine ⟨t + 1, by rw [hvw, List.length_append, ← i.et]; rfl, hR, fun t' ht' => i.fut t' (by omega), fun x hx => by have := hold x hx; omega, ⟨0, Nat.zero_le _, by rw [hnx]; simp, ?_, ?_, .inl ⟨hwr, by omega, ?_, ?_⟩⟩, fun t' ht' => ?_, ?_, fun z => ?_, hcnt⟩
    · unfold wrs
      rw [hnone]
      rfl
    · rw [hnx]
      unfold lev
      rw [show ({ (S.did h).rd0 h e with wr := fset (S.did h).wr h true, vw := fset (S.did h).vw h ((S.did h).vw h ++ [(v, countE ((S.did h).fd h ++ [e]) ((S.did h).nx h))]), nx := fset (S.did h).nx h ((n : Int) + 1) } : CS).cl (t + 1) h = none from i.fut (t + 1) (by omega)]
    · rw [hnone]
      simp
    · rw [Nat.succ_mul]
      rw [hle'] at hwl
      omega
    · rw [hvw]
      by_cases z : t' < t
      · obtain ⟨k, v', s, a, b, c', d, e', f⟩ := hend t' z
        exact ⟨k, v', s, a, b, by rw [List.getElem?_append_left (by omega)]; exact c', d, e', f⟩
      · have : t' = t := by omega
        subst this
        refine ⟨j + 1, v, c, Nat.succ_pos _, hk, ?_, by omega, hwrs, ?_⟩
        · rw [List.getElem?_append_right (by omega), i.et, Nat.sub_self]
          rfl
        · rw [hkl, em, hle']
    · rw [hfd]
      exact htail
    · rw [hfd, List.length_append]
      exact .inr hle
end Wl

set_option maxRecDepth 100000
namespace Wl
open PySem PySem.Spec PyProof.Rows L2
theorem Rd1.off {n : Nat} {S S' : CS} {h : Int} {e : En} (r : Rd1 n (S.did h) h e S') : Off S S' h ∧ ∀ t g, S'.cl t g = S.cl t g := by
  rcases r with ⟨_, rfl⟩ | ⟨_, _, rfl⟩ | ⟨_, _, v, rfl⟩
  · exact ⟨⟨fun g n => rfl, fun g n => rfl, fun g n => fset_ne n, fun g n => rfl, fun t g n => rfl, rfl⟩, fun t g => rfl⟩
  · exact ⟨⟨fun g n => rfl, fun g n => rfl, fun g n => fset_ne n, fun g n => fset_ne n, fun t g n => rfl, rfl⟩, fun t g => rfl⟩
  · exact ⟨⟨fun g n => fset_ne n, fun g n => fset_ne n, fun g n => fset_ne n, fun g n => fset_ne n, fun t g n => rfl, rfl⟩, fun t g => rfl⟩
theorem hand' {hs : List Int} {R : Nat} {S S' : CS} {ws : Int → List Wd} {h : Int} {x : Wd} (c : CInv hs R S ws) (o : Off S S' h) (hh : ∃ t', HandI hs.length R S' h t' (ws h ++ [x])) :
    ∀ g ∈ hs, ∃ t, HandI hs.length R S' g t (fset ws h (ws h ++ [x]) g) := fun g hg => by
  by_cases e : g = h
  · subst e
    rw [fset_same]
    exact hh
  · rw [fset_ne e]
    obtain ⟨t, i⟩ := c.hand g hg
    exact ⟨t, i.off o e⟩
theorem dn' {hs : List Int} {R : Nat} {S S' : CS} {ws : Int → List Wd} {h : Int} (c : CInv hs R S ws) (o : Off S S' h) (hh : h ∈ hs) : ∀ x ∈ S'.dn, x ∈ hs := fun x hx => by
  rw [o.dn] at hx
  rcases List.mem_append.mp hx with z | z
  · exact c.dn x z
  · simp at z
    rw [z]
    exact hh
theorem CInv.wrt {hs : List Int} {R : Nat} {S : CS} {ws : Int → List Wd} (c : CInv hs R S ws) (nd : hs.Nodup) {h : Int} (hh : h ∈ hs) {t : Nat} (ht : t + 1 = (S.vw h).length) (hR : t < R) (hw : S.wr h = true) (p : Addr) :
    CInv hs R ((S.did h).wrt h t p) (fset ws h (ws h ++ [.w t (S.nx h - 1)])) := by
  obtain ⟨t0, i0⟩ := c.hand h hh
  have i := i0.uniq ht
  obtain ⟨k, hk, hn, hws, hl, ph⟩ := i.cur
  have hkn : k < hs.length := by
    rcases ph with ⟨_, z, _⟩ | ⟨z, _⟩
    · exact z
    · rw [hw] at z; cases z
  -- the level that h goes down to
  obtain ⟨L0, hL0⟩ : ∃ L0 : Nat, S.nx h = (L0 : Int) + 1 := ⟨hs.length - k, by omega⟩
  have hL0p : 0 < L0 := by omega
  have e1 : S.nx h - 1 = (L0 : Int) := by omega
  have hcl : ∀ t' g, ((S.did h).wrt h t p).cl t' g = if t' = t ∧ g = h then some (p, S.nx h - 1) else S.cl t' g := fun _ _ => rfl
  have lh : lev hs.length ((S.did h).wrt h t p) t h = L0 := by
    unfold lev
    rw [hcl, if_pos ⟨rfl, rfl⟩]
    exact e1
  have lo : ∀ t' g, ¬ (t' = t ∧ g = h) → lev hs.length ((S.did h).wrt h t p) t' g = lev hs.length S t' g := fun t' g z => lev_congr (by rw [hcl, if_neg z])
  have hnw : ∀ L, ¬ Wit hs S h t L := fun L z => by
    rcases z with z | ⟨_, z, _⟩
    · omega
    · rw [hw] at z; cases z
  have lt0 : low hs S t L0 < L0 := by
    refine Nat.lt_of_le_of_ne (c.one t L0) fun z => ?_
    have ph0 : decide (lev hs.length S t h ≤ (L0 : Int)) = false := decide_eq_false (by omega)
    have f1 := cnt_flip (p := fun g => decide (lev hs.length S t g ≤ (L0 : Int))) (q := fun g => decide (lev hs.length S t g ≤ (L0 : Int)) || decide (g = h)) nd hh (fun g n => by simp [n]) ph0 (by simp)
    have f2 : hs.countP (fun g => decide (lev hs.length S t g ≤ (L0 : Int)) || decide (g = h)) ≤ low hs S t ((L0 + 1 : Nat) : Int) := List.countP_mono_left fun g _ hg => by
      simp at hg
      rcases hg with y | y
      · simp; omega
      · rw [y]; simp; omega
    have f3 := c.one t (L0 + 1)
    have z' : hs.countP (fun g => decide (lev hs.length S t g ≤ (L0 : Int))) = L0 := z
    have f4 : low hs S t ((L0 + 1 : Nat) : Int) = L0 + 1 := by omega
    obtain ⟨x, hx, lx, wx⟩ := c.wit t (L0 + 1) (Nat.succ_pos _) f4
    have nx : x ≠ h := fun y => hnw _ (y ▸ wx)
    have f5 := cnt_two (p := fun g => decide (lev hs.length S t g ≤ (L0 : Int))) (q := fun g => decide (lev hs.length S t g ≤ ((L0 + 1 : Nat) : Int))) nd hh hx (Ne.symm nx) (fun g hg => by simp at hg ⊢; omega) ph0 (by simp; omega) (by simp; omega) (by simp; omega)
    have f6 : low hs S t ((L0 + 1 : Nat) : Int) = hs.countP (fun g => decide (lev hs.length S t g ≤ ((L0 + 1 : Nat) : Int))) := rfl
    omega
  have low0 : low hs ((S.did h).wrt h t p) t L0 = low hs S t L0 + 1 := by
    refine cnt_flip nd hh (fun g n => ?_) (decide_eq_false (by omega)) (decide_eq_true (by omega))
    rw [lo t g fun z => n z.2]
  have lows : ∀ t' (L : Nat), ¬ (t' = t ∧ L = L0) → low hs ((S.did h).wrt h t p) t' L = low hs S t' L := fun t' L z => by
    refine List.countP_congr fun g hg => ?_
    by_cases y : t' = t ∧ g = h
    · obtain ⟨rfl, rfl⟩ := y
      simp only [decide_eq_true_eq]
      rw [lh]
      omega
    · rw [lo t' g y]
  refine ⟨hand' c offWrt ⟨t, i.wrt hw hR⟩, fun x hx t' ht' hwx j g e hg he => ?_, fun t' L => ?_, fun t' L hL hlow => ?_, dn' c offWrt hh⟩
  · by_cases z : x = h
    · subst z
      rw [show ((S.did x).wrt x t p).fd x = [] from fset_same] at he
      simp at he
    · rw [offWrt.wr x z] at hwx
      rw [offWrt.fd x z] at he
      rw [offWrt.vw x z] at ht'
      have r := c.rd x hx t' ht' hwx j g e hg he
      refine ⟨fun L hL => ?_, fun y => by rw [offWrt.nx x z]; exact r.2 y⟩
      have r1 := r.1 L hL
      by_cases y : t' = t ∧ g = h
      · obtain ⟨rfl, rfl⟩ := y
        omega
      · rw [lo t' g y]
        exact r1
  · by_cases z : t' = t ∧ L = L0
    · obtain ⟨rfl, rfl⟩ := z
      omega
    · rw [lows t' L z]
      exact c.one t' L
  · by_cases z : t' = t ∧ L = L0
    · obtain ⟨rfl, rfl⟩ := z
      refine ⟨h, hh, lh, .inr ⟨ht, fset_same, fun j g e _ he => ?_⟩⟩
      rw [show ((S.did h).wrt h t' p).fd h = [] from fset_same] at he
      simp at he
    · rw [lows t' L z] at hlow
      obtain ⟨x, hx, lx, wx⟩ := c.wit t' L hL hlow
      by_cases y : x = h
      · subst y
        have nt : t' ≠ t := fun y => hnw L (y ▸ wx)
        refine ⟨x, hx, by rw [lo t' x fun y => nt y.1]; exact lx, ?_⟩
        rcases wx with w | ⟨w, _⟩
        · exact .inl w
        · omega
      · refine ⟨x, hx, by rw [lo t' x fun w => y w.2]; exact lx, ?_⟩
        unfold Wit
        rw [offWrt.vw x y, offWrt.wr x y, offWrt.fd x y]
        rcases wx with w | ⟨w1, w2, w3⟩
        · exact .inl w
        · refine .inr ⟨w1, w2, fun j g e hg he hle => w3 j g e hg he ?_⟩
          by_cases v : t' = t ∧ g = h
          · obtain ⟨rfl, rfl⟩ := v
            rw [lh] at hle
            have : L ≠ L0 := fun u => z ⟨rfl, u⟩
            omega
          · rw [lo t' g v] at hle
            exact hle
theorem cond_lev {n : Nat} {S : CS} {t : Nat} {g : Int} {L : Int} (h : L ≤ n) : cond L (S.cl t g) = true ↔ lev n S t g ≤ L := by
  unfold lev
  cases e : S.cl t g with
  | none => simp [cond]; omega
  | some x => simp [cond]
theorem cond_lev' {n : Nat} {S : CS} {t : Nat} {g : Int} {L : Int} (h : cond L (S.cl t g) = true) : lev n S t g ≤ L := by
  unfold lev
  cases e : S.cl t g with
  | none => rw [e] at h; simp [cond] at h
  | some x => rw [e] at h; simpa [cond] using h
theorem CInv.rdd {hs : List Int} {R : Nat} {S S' : CS} {ws : Int → List Wd} (c : CInv hs R S ws) {h : Int} (hh : h ∈ hs) {t : Nat} (ht : t + 1 = (S.vw h).length) (hw : S.wr h = false) {g0 : Int} (hg0 : hs[(S.fd h).length]? = some g0)
    (r : Rd1 hs.length (S.did h) h (S.cl t g0) S') : CInv hs R S' (fset ws h (ws h ++ [.r t g0 (S.cl t g0)])) := by
  obtain ⟨t0, i0⟩ := c.hand h hh
  have i := i0.uniq ht
  obtain ⟨k, hk, hn, hws, hl, ph⟩ := i.cur
  obtain ⟨_, hR, hfn, j, rfl, hr, hlen⟩ : S.wr h = false ∧ t < R ∧ (S.fd h).length < hs.length ∧ ∃ j, k = j + 1 ∧ (rnd t (ws h)).length = j * (hs.length + 1) + 1 + (S.fd h).length ∧ (ws h).length ≤ t * (hs.length * (hs.length + 1)) + (j * (hs.length + 1) + 1 + (S.fd h).length) := by
    rcases ph with ⟨z, _⟩ | z
    · rw [hw] at z; cases z
    · exact z
  obtain ⟨o, ecl⟩ := r.off
  have ol : ∀ t' g, lev hs.length S' t' g = lev hs.length S t' g := fun t' g => lev_congr (ecl t' g)
  have olow : ∀ t' L, low hs S' t' L = low hs S t' L := fun t' L => List.countP_congr fun g _ => by rw [ol]
  -- what is found, with the last
  have fa : ∀ (i : Nat) (g : Int) (e : En), hs[i]? = some g → (S.fd h ++ [S.cl t g0])[i]? = some e → (∀ L, cond L e = true → lev hs.length S t g ≤ L) ∧ (g = h → cond (S.nx h) e = true) := fun i g e hg he => by
    by_cases z : i < (S.fd h).length
    · rw [List.getElem?_append_left z] at he
      exact c.rd h hh t ht hw i g e hg he
    · have z2 : i = (S.fd h).length := by
        have := (List.getElem?_eq_some_iff.mp he).1
        rw [List.length_append] at this
        simp at this
        omega
      subst z2
      rw [hg0] at hg
      cases hg
      rw [List.getElem?_append_right (Nat.le_refl _), Nat.sub_self] at he
      simp at he
      subst he
      refine ⟨fun L => cond_lev', fun y => ?_⟩
      subst y
      exact (cond_lev (n := hs.length) (by omega)).mpr (by omega)
  have up : ∀ L : Int, (S.fd h).length + 1 = hs.length → countE (S.fd h ++ [S.cl t g0]) L ≤ low hs S t L := fun L hlen => by
    refine cnt_zip (by rw [List.length_append]; exact hlen) fun i e g he hg hc => decide_eq_true ((fa i g e hg he).1 L hc)
  have n2 : (S.fd h).length + 1 = hs.length → (countE (S.fd h ++ [S.cl t g0]) (S.nx h) : Int) ≠ S.nx h → 2 ≤ S.nx h := fun hlen hne => by
    refine Decidable.byContradiction fun z => ?_
    have n1 : S.nx h = 1 := by omega
    have u := up (S.nx h) hlen
    have v := c.one t 1
    rw [n1] at u
    have v' : low hs S t 1 ≤ 1 := v
    have w : 0 < countE (S.fd h ++ [S.cl t g0]) (S.nx h) := by
      refine List.countP_pos_iff.mpr ?_
      obtain ⟨q, hq, eq⟩ := List.mem_iff_getElem.mp hh
      have hq2 : q < (S.fd h ++ [S.cl t g0]).length := by rw [List.length_append]; exact hlen ▸ hq
      refine ⟨_, List.getElem_mem hq2, (fa q h _ (by rw [← eq]; exact List.getElem?_eq_getElem hq) (List.getElem?_eq_getElem hq2)).2 rfl⟩
    rw [n1] at w
    refine hne ?_
    rw [n1]
    omega
  refine ⟨hand' c o (i.rd hw r n2), fun x hx t' ht' hwx q g e hg he => ?_, fun t' L => by rw [olow]; exact c.one t' L, fun t' L hL hlow => ?_, dn' c o hh⟩
  · rw [ol]
    by_cases z : x = h
    · subst z
      rcases r with ⟨_, rfl⟩ | ⟨_, _, rfl⟩ | ⟨_, _, v, rfl⟩
      · have ht2 : t' + 1 = (S.vw x).length := ht'
        have tt : t' = t := by omega
        subst tt
        rw [show ((S.did x).rd0 x (S.cl t' g0)).fd x = S.fd x ++ [S.cl t' g0] from fset_same] at he
        exact fa q g e hg he
      · rw [show ({ (S.did x).rd0 x (S.cl t g0) with wr := fset (S.did x).wr x true } : CS).wr x = true from fset_same] at hwx
        cases hwx
      · exact absurd (hwx.symm.trans (show _ = true from fset_same)) (by simp)
    · rw [o.wr x z] at hwx
      rw [o.fd x z] at he
      rw [o.vw x z] at ht'
      rw [o.nx x z]
      exact c.rd x hx t' ht' hwx q g e hg he
  · rw [olow] at hlow
    obtain ⟨x, hx, lx, wx⟩ := c.wit t' L hL hlow
    refine ⟨x, hx, by rw [ol]; exact lx, ?_⟩
    by_cases z : x = h
    · subst z
      rcases wx with w | ⟨w1, w2, w3⟩
      · refine .inl ?_
        rcases r with ⟨_, rfl⟩ | ⟨_, _, rfl⟩ | ⟨_, _, v, rfl⟩
        · exact w
        · exact w
        · show t' + 1 < (fset S.vw x (S.vw x ++ [(v, _)]) x).length
          rw [fset_same, List.length_append]
          omega
      · have tt : t' = t := by omega
        subst tt
        have hLn : (L : Int) ≤ hs.length := by have := low_le (hs := hs) (S := S) (t := t') (L := L); omega
        have w3' : ∀ (i : Nat) (g : Int) (e : En), hs[i]? = some g → (S.fd x ++ [S.cl t' g0])[i]? = some e → lev hs.length S t' g ≤ L → cond L e = true := fun i g e hg he hle => by
          by_cases y : i < (S.fd x).length
          · rw [List.getElem?_append_left y] at he
            exact w3 i g e hg he hle
          · have z2 : i = (S.fd x).length := by
              have := (List.getElem?_eq_some_iff.mp he).1
              rw [List.length_append] at this
              simp at this
              omega
            subst z2
            rw [hg0] at hg
            cases hg
            rw [List.getElem?_append_right (Nat.le_refl _), Nat.sub_self] at he
            simp at he
            subst he
            exact (cond_lev hLn).mpr hle
        rcases r with ⟨_, rfl⟩ | ⟨hlen, hne, rfl⟩ | ⟨_, _, v, rfl⟩
        · refine .inr ⟨w1, w2, fun i g e hg he hle => ?_⟩
          rw [show ((S.did x).rd0 x (S.cl t' g0)).fd x = S.fd x ++ [S.cl t' g0] from fset_same] at he
          exact w3' i g e hg he hle
        · have hlen' : (S.fd x).length + 1 = hs.length := hlen
          have hne' : (countE (S.fd x ++ [S.cl t' g0]) (S.nx x) : Int) ≠ S.nx x := hne
          have u := up (S.nx x) hlen'
          have eL : S.nx x = (L : Int) := hl.symm.trans lx
          rw [eL] at u hne'
          have d : low hs S t' L ≤ countE (S.fd x ++ [S.cl t' g0]) L := cnt_zip (by rw [List.length_append]; exact hlen'.symm) fun i g e hg he hc => w3' i g e hg he (of_decide_eq_true hc)
          exact absurd (by omega) hne'
        · refine .inl ?_
          show t' + 1 < (fset S.vw x (S.vw x ++ [(v, _)]) x).length
          rw [fset_same, List.length_append]
          show t' + 1 < (S.vw x).length + 1
          omega
    · unfold Wit
      rw [o.vw x z, o.wr x z, o.fd x z]
      rcases wx with w | ⟨w1, w2, w3⟩
      · exact .inl w
      · exact .inr ⟨w1, w2, fun q g e hg he hle => w3 q g e hg he (by rw [ol] at hle; exact hle)⟩
theorem CInv.step {hs : List Int} {R : Nat} {S S' : CS} {ws : Int → List Wd} (c : CInv hs R S ws) (nd : hs.Nodup) {h : Int} (hh : h ∈ hs) {t : Nat} (ht : t + 1 = (S.vw h).length) (hR : t < R) {x : Wd} (s : StepTo hs S h t x S') :
    CInv hs R S' (fset ws h (ws h ++ [x])) := by
  cases s with
  | w p hw => exact c.wrt nd hh ht hR hw p
  | r g S' hw hg r => exact c.rdd hh ht hw hg r
end Wl

set_option maxRecDepth 100000
namespace Wl
open PySem PySem.Spec PyProof.Rows L2
def Wd.is0 : Wd → Str
  | .w .. => "write"
  | .r .. => "read"
theorem Wd.its0 (x : Wd) : x.its[0]? = some (.str x.is0) := by cases x <;> rfl
theorem Wd.its1 (x : Wd) : x.its[1]? = some (.int ((x.t : Int) + 1)) := by cases x <;> rfl
theorem Wd.its2 {x : Wd} {l : Int} (h : x.lv = some l) : x.its[2]? = some (.int l) := by
  cases x with
  | w t l' => cases h; rfl
  | r t g e => cases h
theorem Wd.its3 {x : Wd} {e : En} (h : x.en = some e) : x.its[3]? = some (enV e) := by
  cases x with
  | w t l' => cases h
  | r t g e' => cases h; rfl
theorem Wd.is_w (x : Wd) : decide (V.str x.is0 = V.str "write") = x.lv.isSome := by
  cases x with
  | w t l' => exact decide_eq_true rfl
  | r t g e => exact decide_eq_false (fun z => absurd (V.str.inj z) (show ¬ (("read" : Str) = ("write" : Str)) from by decide +kernel))
/-- words in a list -/
structure WordsAt (H : Hp) (a : Addr) (zs : List (Addr × Wd)) : Prop where
  l : H a = some (.lst (zs.map fun z => V.ref z.1))
  t : ∀ z ∈ zs, H z.1 = some (.tup z.2.its)
theorem WordsAt.same {H H' : Hp} {a : Addr} {zs : List (Addr × Wd)} (w : WordsAt H a zs) (s : Same H H') : WordsAt H' a zs := ⟨s _ _ w.l, fun z hz => s _ _ (w.t z hz)⟩
theorem word_at {zs : List (Addr × Wd)} {i : Nat} {x : V} (h : (zs.map fun z => V.ref z.1)[i]? = some x) : ∃ z, zs[i]? = some z ∧ x = .ref z.1 := by
  rw [List.getElem?_map] at h
  cases e : zs[i]? with
  | none => rw [e] at h; cases h
  | some u => rw [e] at h; exact ⟨u, rfl, (Option.some.inj h).symm⟩
theorem filt_take {α : Type} {p : α → Bool} {zs : List α} {i : Nat} {z : α} (h : zs[i]? = some z) : (zs.take (i + 1)).filter p = (zs.take i).filter p ++ (if p z = true then [z] else []) := by
  rw [List.take_add_one, h, List.filter_append]
  cases e : p z <;> simp [e]
theorem rnd_map {zs : List (Addr × Wd)} {t : Nat} : rnd t (zs.map (·.2)) = (zs.filter fun z => decide (z.2.t = t)).map (·.2) := by
  unfold rnd
  rw [List.filter_map]
  rfl
theorem wr_len : ∀ l : List (Addr × Wd), (l.filter fun z => z.2.lv.isSome).length = ((l.map (·.2)).filterMap Wd.lv).length
  | [] => rfl
  | z :: r => by
    have ih := wr_len r
    rw [List.map_cons, List.filterMap_cons, List.filter_cons]
    cases e : z.2.lv with
    | none => simpa [e] using ih
    | some x => simpa [e] using ih
theorem down_rg (n k : Nat) : (down n k).map V.int = rgC (n : Int) (-1) k := by
  unfold down rgC
  rw [List.map_map]
  refine List.map_congr_left fun i _ => ?_
  show V.int ((n : Int) - i) = V.int ((n : Int) + i * (-1))
  exact congrArg V.int (by omega)
section
variable {P : Program} {w : World} {K : PySem.W.Frag} {mg : Str → Option Value} {base : Heap}
def spCounted (C : Addr) : Sp := fun vs H Q _ => ∃ (ps : List (Int × Int)) (R : Nat) (L : Lay) (S : CS) (h : Int) (a : Addr) (zs : List (Addr × Wd)) (t : Nat), vs = [.ref L.p, .int h, .ref a, .int R] ∧ CellsAt C H ps R L S ∧ h ∈ ps.map (·.1) ∧
  WordsAt H a zs ∧ zs.length < 1000 ∧ HandI ps.length R S h t (zs.map (·.2)) ∧ ∀ H', Same H H' → Q (.bl true) H'
set_option maxHeartbeats 4000000 in
theorem ok__law_counted (T : Tx K mg) : FnOk P w K mg base CX0 6 T.f__law_counted.a T.f__law_counted.d ["cells", "hand", "words", "number"] (spCounted T.C_Cells) := by
  refine T.f__law_counted.F.ok sc__law_counted (fun vs H Q E h => ?_) (fun cdv A outer s H vs Q E hr h => ?_)
  · obtain ⟨ps, R, L, S, h, a, zs, t, rfl, _⟩ := h
    rfl
  · obtain ⟨ps, R, L, S, h, a, zs, t, rfl, c, hh, wa, hlen, hi, q⟩ := h
    have hle := c.le
    have hv := c.v0 h hh
    have het := hi.et
    have htR := hi.le
    have hR := c.rle
    refine ⟨_, (pss_cons (ps_set (i := 4) sc__law_counted.nd rfl (.inl rfl) (pe_kfld (K := K) rfl (pv 0) rfl))
      (pss_cons (ps_for PassesOwn.never rfl (pi_range2 (by rfl) T.n_range (pa_cons pe_int (pa_cons (pe_op op_add (pe_meth (pv 0) T.c_Cells T.f_Cells_ended.m (ok_Cells_ended T) (hr.mono (by decide)) T.f_Cells_ended.b .nil pass0 (pa_cons (pv 1) pa_nil)) pe_int) pa_nil))) (pg_name (i := 5) sc__law_counted.nd rfl (.inr rfl))
        (pss_cons (ps_setLc (i := 6) (own := [("told", 7)]) rfl sc__law_counted.nd rfl rfl (sw_true rfl rfl rfl (by decide +kernel)) (pi_list (pv 2)) (blkOk_by (N := ["cells", "hand", "words", "number", "many", "moment", "some", "told", "size"]) (sc := defScope s__law_counted) (by decide +kernel)) (fun _ _ _ _ _ => (pg_name (i := 7) sc__law_counted.nd rfl (.inl rfl))) (fun _ _ _ _ _ => (pts_one (pt_cmpR op_eq (pe_ix (kx_tup (K := K) rfl) (pv 7) pe_int (fun _ _ => rfl)) (pv 5) (nomark _)))) (fun _ _ _ _ _ => (pv 7)))
        (pss_cons (ps_set (i := 8) sc__law_counted.nd rfl (.inl rfl) (pe_callB (k_len (K := K) rfl) (by rfl) T.n_len PySem.boot_len (pa_cons (pe_meth (pv 0) T.c_Cells T.f_Cells_view.m (ok_Cells_view T) (hr.mono (by decide)) T.f_Cells_view.b .nil pass0 (pa_cons (pv 1) (pa_cons (pv 5) pa_nil))) pa_nil)))
        (pss_cons (ps_if (PW.pt (pw_or (pt_cmpR op_ne (pe_callB (k_len (K := K) rfl) (by rfl) T.n_len PySem.boot_len (pa_cons (pv 6) pa_nil)) (pe_op op_mul (pe_op op_add (pe_op op_sub (pv 4) (pv 8)) pe_int) (pe_op op_add (pv 4) pe_int)) (nomark _)) (pw_or1 (pt_cmpR op_ne (pe_callB (k_len (K := K) rfl) (by rfl) T.n_len PySem.boot_len (pa_cons (pe_lc (own := [("told", 7)]) rfl sc__law_counted.nd (pi_list (pv 6)) (blkOk_by (N := ["cells", "hand", "words", "number", "many", "moment", "some", "told", "size"]) (sc := defScope s__law_counted) (by decide +kernel)) (fun _ _ _ _ _ => (pg_name (i := 7) sc__law_counted.nd rfl (.inl rfl))) (fun _ _ _ _ _ => (pts_one (pt_cmpR op_eq (pe_ix (kx_tup (K := K) rfl) (pv 7) pe_int (fun _ _ => rfl)) pe_str (nomark _)))) (fun _ _ _ _ _ => (pv 7))) pa_nil)) (pe_op op_add (pe_op op_sub (pv 4) (pv 8)) pe_int) (nomark _))))) (pss_one (ps_ret pe_bl)) pss_nil)
        (pss_one (ps_if (pt_cmpR (k_neD (K := K) rfl hr.units) (pe_lc (own := [("told", 7)]) rfl sc__law_counted.nd (pi_list (pv 6)) (blkOk_by (N := ["cells", "hand", "words", "number", "many", "moment", "some", "told", "size"]) (sc := defScope s__law_counted) (by decide +kernel)) (fun _ _ _ _ _ => (pg_name (i := 7) sc__law_counted.nd rfl (.inl rfl))) (fun _ _ _ _ _ => (pts_one (pt_cmpR op_eq (pe_ix (kx_tup (K := K) rfl) (pv 7) pe_int (fun _ _ => rfl)) pe_str (nomark _)))) (fun _ _ _ _ _ => (pe_ix (kx_tup (K := K) rfl) (pv 7) pe_int (fun _ _ => rfl)))) (pe_listRg3 rfl (by rfl) T.n_list (by rfl) T.n_range (pa_cons (pv 4) (pa_cons (pe_op op_sub (pv 8) pe_int) (pa_cons (pe_un un_neg pe_int) pa_nil)))) (nomark _)) (pss_one (ps_ret pe_bl)) pss_nil))))))
      (pss_one (ps_ret (pe_cmpR op_le (pe_meth (pv 0) T.c_Cells T.f_Cells_ended.m (ok_Cells_ended T) (hr.mono (by decide)) T.f_Cells_ended.b .nil pass0 (pa_cons (pv 1) pa_nil)) (pv 3) (nomark _)))))), ?_⟩
    refine ⟨_, rfl, L.p, T.C_Cells, L.dx, _, _, rfl, c.ins, T.c_Cells, T.na_Cells_many, lk_many, ?_⟩
    refine ⟨_, rfl, L.p, L.dx, _, rfl, c.ins, rfl, _, rfl, ps, R, L, S, h, rfl, c, hh, fun H1 s1 => ?_⟩
    refine ⟨_, 1, rfl, rfl, 1, _, rfl, ⟨by decide, by decide, by omega, by omega⟩, for_range (lo := 1) (fun i σ H' => ∃ (y5 y6 y7 y8 : Option V), σ = [some (.ref L.p), some (.int h), some (.ref a), some (.int R), some (.int ((ps.map (·.1)).length : Nat)), y5, y6, y7, y8] ∧ Same H H')
      ⟨none, none, none, none, rfl, s1⟩ ?_ ?_⟩
    · rintro i σ H2 hi2 ⟨y5, y6, y7, y8, rfl, s2⟩
      have hit : i < t := by omega
      have c2 := c.same s2
      have ci2 := c2.ins
      have wa2 := wa.same s2
      obtain ⟨k, v, sz, hk0, hkn, hvw, hsk, hwr, hrl⟩ := hi.ended i hit
      -- some
      refine ⟨_, rfl, a, rfl, ⟨_, SqL.of wa2.l⟩, fun D nD => lc_list (K := K) (a := a) (xs := zs.map fun z => V.ref z.1) (fun j H3 => H3 D = some (.lst (((zs.take j).filter fun z => decide (z.2.t = i)).map fun z => V.ref z.1)) ∧ Same H2 H3)
        ⟨upd_same, same_new nD⟩ (fun j H3 _ ⟨_, s3⟩ => SqL.of (s3 _ _ wa2.l)) ?_ ?_⟩
      · rintro j x H3 hx ⟨eD, s3⟩
        obtain ⟨z, hz, rfl⟩ := word_at hx
        have ez := s3 _ _ (wa2.t z (List.mem_of_getElem? hz))
        have hj := (List.getElem?_eq_some_iff.mp hz).1
        have ft := filt_take (p := fun z : Addr × Wd => decide (z.2.t = i)) hz
        refine ⟨rfl, _, rfl, z.1, _, 1, _, rfl, rfl, SqT.of ez, atI_nat (j := 1) z.2.its1, _, rfl, rfl, _, rfl, ite2 (fun e => ?_) (fun e => ?_)⟩
        · have e' : z.2.t = i := by have := V.int.inj (of_decide_eq_true e); omega
          refine ⟨_, rfl, _, eD, ?_, ?_, ?_⟩
          · rw [List.length_map]
            have := List.length_filter_le (fun z : Addr × Wd => decide (z.2.t = i)) (zs.take j)
            rw [List.length_take] at this
            exact small1000 (by omega)
          · rw [upd_same, ft, if_pos (decide_eq_true e'), List.map_append]
            rfl
          · exact fun b o e => by
              rw [upd_ne (ne_of_none e nD)]
              exact s3 b o e
        · have e' : ¬ z.2.t = i := fun y => e (decide_eq_true (by rw [y]; exact congrArg V.int (by omega)))
          refine ⟨?_, s3⟩
          rw [eD, ft, if_neg (by simpa using e'), List.append_nil]
      rintro H3 ⟨eD, s3⟩
      rw [List.length_map, List.take_of_length_le (Nat.le_refl _)] at eD
      generalize hzi : (zs.filter fun z => decide (z.2.t = i)) = zi at eD
      have hzm : rnd i (zs.map (·.2)) = zi.map (·.2) := by rw [rnd_map, hzi]
      have hzl : zi.length = k * (ps.length + 1) := by rw [← hrl, hzm, List.length_map]
      have hzw : (zi.map (·.2)).filterMap Wd.lv = down ps.length k := by rw [← hwr]; unfold wrs; rw [hzm]
      have hz8 : zi.length ≤ zs.length := by rw [← hzi]; exact List.length_filter_le _ _
      have c3 := c2.same s3
      have ci3 := c3.ins
      have wi : ∀ z ∈ zi, H3 z.1 = some (.tup z.2.its) := fun z hz => s3 _ _ (wa2.t z (List.mem_filter.mp (hzi ▸ hz)).1)
      -- size
      refine ⟨_, rfl, L.p, L.dx, _, rfl, ci3, rfl, _, rfl, _, rfl, ps, R, L, S, h, i + 1, _, ?_, c3, hh, hvw, fun H4 s4 => ?_⟩
      · show [V.ref L.p, V.int h, V.int (1 + (i : Int))] = _
        rw [show (((i + 1 : Nat)) : Int) = 1 + (i : Int) by omega]
      have c4 := c3.same s4
      obtain ⟨pv, xs, ev, epv, hxs⟩ := c4.vw h hh i _ hvw
      have ev' : v = .ref pv := ev
      have hxs' : xs.length = sz := hxs
      subst ev'
      refine ⟨pv, xs, rfl, .inr (SqT.of epv), ?_⟩
      rw [hxs']
      have eD4 := s4 _ _ eD
      -- the first test
      refine ⟨_, rfl, D, _, rfl, .inl (SqL.of eD4), _, rfl, _, rfl, _, _, rfl, rfl, _, 1, rfl, rfl, _, rfl, _, 1, rfl, rfl, _, _, rfl, rfl, .inl ⟨by rw [List.length_map]; omega, by rw [List.length_map]; omega⟩, rfl, false, ?_, iteF ?_⟩
      · refine congrArg V.bl ?_
        rw [decide_eq_true]
        · rfl
        · refine congrArg V.int ?_
          rw [List.length_map, List.length_map, hzl, show ((ps.length : Int) - (sz : Int) + 1) = (k : Int) by omega]
          simp
      -- the second test
      refine ⟨_, rfl, D, rfl, ⟨_, SqL.of eD4⟩, fun D2 nD2 => lc_list (K := K) (a := D) (xs := zi.map fun z => V.ref z.1) (fun j H5 => H5 D2 = some (.lst (((zi.take j).filter fun z => z.2.lv.isSome).map fun z => V.ref z.1)) ∧ Same H4 H5)
        ⟨upd_same, same_new nD2⟩ (fun j H5 _ ⟨_, s5⟩ => SqL.of (s5 _ _ eD4)) ?_ ?_⟩
      · rintro j x H5 hx ⟨eD2, s5⟩
        obtain ⟨z, hz, rfl⟩ := word_at hx
        have ez := s5 _ _ (s4 _ _ (wi z (List.mem_of_getElem? hz)))
        have hj := (List.getElem?_eq_some_iff.mp hz).1
        have ft := filt_take (p := fun z : Addr × Wd => z.2.lv.isSome) hz
        refine ⟨rfl, _, rfl, z.1, _, 0, _, rfl, rfl, SqT.of ez, atI_nat (j := 0) z.2.its0, rfl, _, congrArg V.bl z.2.is_w, ite2 (fun e => ?_) (fun e => ?_)⟩
        · refine ⟨_, rfl, _, eD2, ?_, ?_, ?_⟩
          · rw [List.length_map]
            have := List.length_filter_le (fun z : Addr × Wd => z.2.lv.isSome) (zi.take j)
            rw [List.length_take] at this
            exact small1000 (by omega)
          · rw [upd_same, ft, if_pos e, List.map_append]
            rfl
          · exact fun b o e => by
              rw [upd_ne (ne_of_none e nD2)]
              exact s5 b o e
        · refine ⟨?_, s5⟩
          rw [eD2, ft, if_neg e, List.append_nil]
      rintro H5 ⟨eD2, s5⟩
      rw [List.length_map, List.take_of_length_le (Nat.le_refl _)] at eD2
      refine ⟨D2, _, rfl, .inl (SqL.of eD2), _, rfl, _, rfl, _, _, rfl, rfl, _, 1, rfl, rfl, rfl, false, ?_, iteF ?_⟩
      · refine congrArg V.bl ?_
        rw [decide_eq_true]
        · rfl
        · refine congrArg V.int ?_
          rw [List.length_map, wr_len, hzw, List.length_map]
          unfold down
          rw [List.length_map, List.length_range]
          omega
      -- the third test
      have eD5 := s5 _ _ eD4
      refine ⟨_, rfl, D, rfl, ⟨_, SqL.of eD5⟩, fun D3 nD3 => lc_list (K := K) (a := D) (xs := zi.map fun z => V.ref z.1) (fun j H6 => H6 D3 = some (.lst ((((zi.take j).map (·.2)).filterMap Wd.lv).map V.int)) ∧ Same H5 H6)
        ⟨upd_same, same_new nD3⟩ (fun j H6 _ ⟨_, s6⟩ => SqL.of (s6 _ _ eD5)) ?_ ?_⟩
      · rintro j x H6 hx ⟨eD3, s6⟩
        obtain ⟨z, hz, rfl⟩ := word_at hx
        have ez := s6 _ _ (s5 _ _ (s4 _ _ (wi z (List.mem_of_getElem? hz))))
        have hj := (List.getElem?_eq_some_iff.mp hz).1
        have ft : ((zi.take (j + 1)).map (·.2)).filterMap Wd.lv = ((zi.take j).map (·.2)).filterMap Wd.lv ++ z.2.lv.toList := by
          rw [List.take_add_one, hz, List.map_append, List.filterMap_append]
          cases e : z.2.lv with
          | none => simp [e]
          | some l => simp [e]
        refine ⟨rfl, _, rfl, z.1, _, 0, _, rfl, rfl, SqT.of ez, atI_nat (j := 0) z.2.its0, rfl, _, congrArg V.bl z.2.is_w, ite2 (fun e => ?_) (fun e => ?_)⟩
        · obtain ⟨l, el⟩ := Option.isSome_iff_exists.mp e
          refine ⟨_, rfl, z.1, _, 2, _, rfl, rfl, SqT.of ez, atI_nat (j := 2) (Wd.its2 el), _, eD3, ?_, ?_, ?_⟩
          · rw [List.length_map]
            have := List.length_filterMap_le Wd.lv ((zi.take j).map (·.2))
            rw [List.length_map, List.length_take] at this
            exact small1000 (by omega)
          · rw [upd_same, ft, el, List.map_append]
            rfl
          · exact fun b o e => by
              rw [upd_ne (ne_of_none e nD3)]
              exact s6 b o e
        · refine ⟨?_, s6⟩
          have en : z.2.lv = none := by simpa using e
          rw [eD3, ft, en]
          simp
      rintro H6 ⟨eD3, s6⟩
      rw [List.length_map, List.take_of_length_le (Nat.le_refl _), hzw] at eD3
      refine ⟨_, rfl, _, rfl, _, 1, rfl, rfl, 1, rfl, _, _, _, k, rfl, ?_, by omega, fun q3 nq3 => ?_⟩
      · have := RgC.neg (i := ((ps.map (·.1)).length : Int)) (j := (sz : Int) - 1) (by omega) (by rw [List.length_map]; omega) (by omega) (by omega)
        rw [show (((ps.map (·.1)).length : Int) - ((sz : Int) - 1)).toNat = k by rw [List.length_map]; omega] at this
        exact this
      refine ⟨.list ((down ps.length k).map PyData.int), .list ((down ps.length k).map PyData.int), .lst (SqL.of (same_new nq3 _ _ eD3)) (dpInts _), .lst (SqL.of upd_same) ?_, shapedInts _, shapedInts _, false, ?_, iteF ?_⟩
      · rw [List.length_map, ← down_rg]
        exact dpInts _
      · refine congrArg V.bl ?_
        show (!PyData.eqvAll _ _) = false
        rw [eqv_ints, decide_eq_true rfl]
        rfl
      · exact ⟨_, _, _, _, rfl, (((s2.trans s3).trans s4).trans s5).trans (same_snoc s6 nq3)⟩
    · rintro σ H2 ⟨y5, y6, y7, y8, rfl, s2⟩
      have c2 := c.same s2
      refine ⟨_, rfl, L.p, L.dx, _, rfl, c2.ins, rfl, _, rfl, ps, R, L, S, h, rfl, c2, hh, fun H3 s3 => ?_⟩
      refine ⟨_, rfl, _, _, rfl, rfl, ?_⟩
      dsimp only
      rw [decide_eq_true (show ((S.vw h).length : Int) - 1 ≤ (R : Int) by omega)]
      exact q H3 (s2.trans s3)
end
end Wl


set_option maxRecDepth 100000
/-! What stands while the law runs: draws, cells, words, lists that stay. -/
namespace Wl
open PySem PySem.Spec PyProof.Rows L2
structure LawAt (C : Addr) (H : Hp) (ps : List (Int × Int)) (R : Nat) (L : Lay) (S : CS) (d l c wd : Addr) (wl : Int → Addr) (zs : Int → List (Addr × Wd)) (fz : List (Addr × List V)) : Prop where
  draw : Draw H d l c
  cells : CellsAt C H ps R L S
  wdict : ∃ kvs, H wd = some (.dK kvs) ∧ DictOf (ps.map (·.1)) kvs fun h => .ref (wl h)
  words : ∀ h ∈ ps.map (·.1), WordsAt H (wl h) (zs h)
  wli : ∀ h ∈ ps.map (·.1), ∀ g ∈ ps.map (·.1), wl h = wl g → h = g
  off : ∀ b, (b = d ∨ b = l ∨ b = c ∨ b = wd ∨ (∃ h ∈ ps.map (·.1), b = wl h) ∨ ∃ f ∈ fz, b = f.1) → ¬ Ftp (ps.map (·.1)) R L b
  nwd : wd ≠ d
  nwl : ∀ h ∈ ps.map (·.1), wl h ≠ l ∧ wl h ≠ c
  fz : ∀ f ∈ fz, H f.1 = some (.lst f.2) ∧ f.1 ≠ l ∧ ∀ h ∈ ps.map (·.1), wl h ≠ f.1
  inv : CInv (ps.map (·.1)) R S fun h => (zs h).map (·.2)
section
variable {C : Addr} {H H' : Hp} {ps : List (Int × Int)} {R : Nat} {L : Lay} {S : CS} {d l c wd : Addr} {wl : Int → Addr} {zs : Int → List (Addr × Wd)} {fz : List (Addr × List V)}
theorem WordsAt.keep {F : Addr → Prop} {a : Addr} {zs : List (Addr × Wd)} (w : WordsAt H a zs) (k : Keep F H H') (n : ¬ F a) (t : Tups H H') : WordsAt H' a zs := ⟨k _ _ w.l n, fun z hz => t _ _ (w.t z hz)⟩
theorem LawAt.drawn (a : LawAt C H ps R L S d l c wd wl zs fz) (k : Keep (dF d l) H H') (D' : Draw H' d l c) : LawAt C H' ps R L S d l c wd wl zs fz := by
  obtain ⟨kvs0, ed⟩ := a.draw.d_some
  have t := a.draw.tups k
  have nl : ∀ {b xs}, H b = some (.lst xs) → b ≠ l → ¬ dF d l b := fun {b xs} e n z => by
    rcases z with z | z
    · rw [z, ed] at e; cases e
    · exact n z
  refine ⟨D', a.cells.keep k t (fun b hb => a.off b (hb.elim .inl fun z => .inr (.inl z))), ?_, fun h hh => (a.words h hh).keep k (nl (a.words h hh).l (a.nwl h hh).1) t, a.wli, a.off, a.nwd, a.nwl, fun f hf => ?_, a.inv⟩
  · obtain ⟨kvs, e, dk⟩ := a.wdict
    obtain ⟨xl, el⟩ := a.draw.l_some
    refine ⟨kvs, k _ _ e fun z => ?_, dk⟩
    rcases z with z | z
    · exact a.nwd z
    · rw [z, el] at e; cases e
  · obtain ⟨e, n1, n2⟩ := a.fz f hf
    exact ⟨k _ _ e (nl e n1), n1, n2⟩
theorem LawAt.same (a : LawAt C H ps R L S d l c wd wl zs fz) (s : Same H H') : LawAt C H' ps R L S d l c wd wl zs fz := a.drawn (.of s) (a.draw.same s)
/-- one more list that stays -/
theorem LawAt.addf (a : LawAt C H ps R L S d l c wd wl zs fz) (s : Same H H') {q : Addr} {xs : List V} (n : H q = none) (e : H' q = some (.lst xs)) : LawAt C H' ps R L S d l c wd wl zs ((q, xs) :: fz) := by
  have b := a.same s
  refine ⟨b.draw, b.cells, b.wdict, b.words, b.wli, fun x hx => ?_, b.nwd, b.nwl, fun f hf => ?_, b.inv⟩
  · rcases hx with z | z | z | z | z | ⟨f, hf, z⟩
    · exact a.off x (.inl z)
    · exact a.off x (.inr (.inl z))
    · exact a.off x (.inr (.inr (.inl z)))
    · exact a.off x (.inr (.inr (.inr (.inl z))))
    · exact a.off x (.inr (.inr (.inr (.inr (.inl z)))))
    · rcases List.mem_cons.mp hf with w | w
      · rw [z, w]
        exact a.cells.off n
      · exact a.off x (.inr (.inr (.inr (.inr (.inr ⟨f, w, z⟩)))))
  · rcases List.mem_cons.mp hf with w | w
    · subst w
      obtain ⟨xl, el⟩ := a.draw.l_some
      exact ⟨e, (ne_of_none el n).symm, fun h hh => ne_of_none (a.words h hh).l n⟩
    · exact b.fz f w
theorem LawAt.drop {fz' : List (Addr × List V)} (a : LawAt C H ps R L S d l c wd wl zs fz) (h : ∀ f ∈ fz', f ∈ fz) : LawAt C H ps R L S d l c wd wl zs fz' := by
  refine ⟨a.draw, a.cells, a.wdict, a.words, a.wli, fun x hx => a.off x ?_, a.nwd, a.nwl, fun f hf => a.fz f (h f hf), a.inv⟩
  rcases hx with z | z | z | z | z | ⟨f, hf, z⟩
  · exact .inl z
  · exact .inr (.inl z)
  · exact .inr (.inr (.inl z))
  · exact .inr (.inr (.inr (.inl z)))
  · exact .inr (.inr (.inr (.inr (.inl z))))
  · exact .inr (.inr (.inr (.inr (.inr ⟨f, h f hf, z⟩))))
/-- after a step, before its word is kept -/
theorem LawAt.mid (a : LawAt C H ps R L S d l c wd wl zs fz) {L' : Lay} (m : Moved (ps.map (·.1)) R H L H' L') {h : Int} (hh : h ∈ ps.map (·.1)) :
    DGet H' wd (.int h) (some (.ref (wl h))) ∧ H' (wl h) = some (.lst ((zs h).map fun z => V.ref z.1)) := by
  obtain ⟨kvs, e, dk⟩ := a.wdict
  exact ⟨dget (k := Sum.inl h) (m.keep _ _ e (a.off wd (.inr (.inr (.inr (.inl rfl)))))) (dk.val h hh), m.keep _ _ (a.words h hh).l (a.off (wl h) (.inr (.inr (.inr (.inr (.inl ⟨h, hh, rfl⟩))))))⟩
theorem LawAt.step (a : LawAt C H ps R L S d l c wd wl zs fz) {L' : Lay} {S' : CS} (m : Moved (ps.map (·.1)) R H L H' L') {h : Int} (hh : h ∈ ps.map (·.1)) {t : Nat} (ht : t + 1 = (S.vw h).length) (hR : t < R) {x : Wd} {u : Addr}
    (nu : H u = none) (eu : H' u = some (.tup x.its)) (c' : CellsAt C H' ps R L' S') (st : StepTo (ps.map (·.1)) S h t x S') :
    LawAt C (upd H' (wl h) (.lst ((zs h).map (fun z => V.ref z.1) ++ [.ref u]))) ps R L' S' d l c wd wl (fset zs h (zs h ++ [(u, x)])) fz := by
  have el := (a.mid m hh).2
  have t' : Tups H H' := a.cells.tups m.keep
  have tp : Tups H' (upd H' (wl h) (.lst ((zs h).map (fun z => V.ref z.1) ++ [.ref u]))) := Tups.put el fun _ z => nomatch z
  have k1 : ∀ b o, H b = some o → ¬ Ftp (ps.map (·.1)) R L b → b ≠ wl h → upd H' (wl h) (.lst ((zs h).map (fun z => V.ref z.1) ++ [.ref u])) b = some o := fun b o e n nb => by
    rw [upd_ne nb]
    exact m.keep b o e n
  have off' : ∀ b, (b = d ∨ b = l ∨ b = c ∨ b = wd ∨ (∃ h ∈ ps.map (·.1), b = wl h) ∨ ∃ f ∈ fz, b = f.1) → H b ≠ none → ¬ Ftp (ps.map (·.1)) R L' b := fun b hb nb z => by
    rcases m.foot b z with y | y
    · exact a.off b hb y
    · exact nb y
  have hsome : ∀ b, (b = d ∨ b = l ∨ b = c ∨ b = wd ∨ (∃ h ∈ ps.map (·.1), b = wl h) ∨ ∃ f ∈ fz, b = f.1) → H b ≠ none := fun b hb y => by
    rcases hb with z | z | z | z | ⟨g, hg, z⟩ | ⟨f, hf, z⟩
    · obtain ⟨⟨_, _, _, _, e1, e2, e3⟩, _⟩ := a.draw
      rw [z, e1] at y; cases y
    · obtain ⟨⟨_, _, _, _, e1, e2, e3⟩, _⟩ := a.draw
      rw [z, e2] at y; cases y
    · obtain ⟨⟨_, _, _, _, e1, e2, e3⟩, _⟩ := a.draw
      rw [z, e3] at y; cases y
    · obtain ⟨kvs, e, _⟩ := a.wdict
      rw [z, e] at y; cases y
    · rw [z, (a.words g hg).l] at y; cases y
    · rw [z, (a.fz f hf).1] at y; cases y
  have elH := (a.words h hh).l
  refine ⟨?_, ?_, ?_, fun g hg => ?_, a.wli, fun b hb => off' b hb (hsome b hb), a.nwd, a.nwl, fun f hf => ?_, ?_⟩
  · obtain ⟨⟨ls, cs, r, t, e1, e2, e3⟩, ne⟩ := a.draw
    refine .mk' (ls := ls) (cs := cs) (r := r) (t := t) (k1 _ _ e1 (a.off d (.inl rfl)) fun z => ?_) (k1 _ _ e2 (a.off l (.inr (.inl rfl))) fun z => (a.nwl h hh).1 z.symm) (k1 _ _ e3 (a.off c (.inr (.inr (.inl rfl)))) fun z => (a.nwl h hh).2 z.symm) ne
    rw [z, elH] at e1; cases e1
  · refine c'.keep (F := fun b => b = wl h) (Keep.rfl'.put rfl) tp fun b hb => ?_
    rw [hb]
    exact off' _ (.inr (.inr (.inr (.inr (.inl ⟨h, hh, rfl⟩))))) (hsome _ (.inr (.inr (.inr (.inr (.inl ⟨h, hh, rfl⟩))))))
  · obtain ⟨kvs, e, dk⟩ := a.wdict
    refine ⟨kvs, k1 _ _ e (a.off wd (.inr (.inr (.inr (.inl rfl))))) fun z => ?_, dk⟩
    rw [z, elH] at e; cases e
  · have w := a.words g hg
    by_cases z : g = h
    · subst z
      rw [fset_same]
      refine ⟨by rw [upd_same, List.map_append]; rfl, fun z hz => ?_⟩
      rcases List.mem_append.mp hz with y | y
      · exact tp _ _ (t' _ _ (w.t z y))
      · simp at y
        rw [y]
        exact tp _ _ eu
    · rw [fset_ne z]
      exact ⟨k1 _ _ w.l (a.off (wl g) (.inr (.inr (.inr (.inr (.inl ⟨g, hg, rfl⟩)))))) fun y => z (a.wli g hg h hh y), fun z hz => tp _ _ (t' _ _ (w.t z hz))⟩
  · obtain ⟨e, n1, n2⟩ := a.fz f hf
    exact ⟨k1 _ _ e (a.off f.1 (.inr (.inr (.inr (.inr (.inr ⟨f, hf, rfl⟩)))))) fun z => n2 h hh z.symm, n1, n2⟩
  · have i := a.inv.step (nodup_of_lt a.cells.rok.up) hh ht hR st
    have e : (fun g => (fset zs h (zs h ++ [(u, x)]) g).map (·.2)) = fset (fun g => (zs g).map (·.2)) h ((zs h).map (·.2) ++ [x]) := funext fun g => by
      by_cases z : g = h
      · subst z
        rw [fset_same, fset_same, List.map_append]
        rfl
      · rw [fset_ne z, fset_ne z]
    rw [e]
    exact i
end
/-! ### bounds -/
theorem HandI.bound {n R : Nat} {S : CS} {h : Int} {t : Nat} {ws : List Wd} (i : HandI n R S h t ws) (hn : n ≤ 4) (hR : R ≤ 2) : ws.length ≤ 100 := by
  obtain ⟨k, hk, _, _, _, ph⟩ := i.cur
  have e1 : n * (n + 1) ≤ 4 * 5 := Nat.mul_le_mul hn (by omega)
  have e2 : t * (n * (n + 1)) ≤ 2 * (4 * 5) := Nat.mul_le_mul (Nat.le_trans i.le hR) e1
  rcases ph with ⟨_, hkn, _, hl⟩ | ⟨_, _, hf, j, hj, _, hl⟩
  · have e3 : k * (n + 1) ≤ 4 * 5 := Nat.mul_le_mul (by omega) (by omega)
    omega
  · have e3 : j * (n + 1) ≤ 4 * 5 := Nat.mul_le_mul (by omega) (by omega)
    omega
theorem HandI.fin {n R : Nat} {S : CS} {h : Int} {t : Nat} {ws : List Wd} (i : HandI n R S h t ws) (hl : R * (n * (n + 1)) ≤ ws.length) : t = R := by
  refine Decidable.byContradiction fun z => ?_
  have ht : t + 1 ≤ R := by have := i.le; omega
  have e2 : (t + 1) * (n * (n + 1)) ≤ R * (n * (n + 1)) := Nat.mul_le_mul_right _ ht
  rw [Nat.succ_mul] at e2
  obtain ⟨k, hk, _, _, _, ph⟩ := i.cur
  rcases ph with ⟨_, hkn, _, hw⟩ | ⟨_, _, hf, j, hj, _, hw⟩
  · have e3 : (k + 1) * (n + 1) ≤ n * (n + 1) := Nat.mul_le_mul_right _ hkn
    rw [Nat.succ_mul] at e3
    omega
  · have e3 : (j + 1) * (n + 1) ≤ n * (n + 1) := Nat.mul_le_mul_right _ (by omega)
    rw [Nat.succ_mul] at e3
    omega
theorem CInv.dnb {hs : List Int} {R : Nat} {S : CS} {ws : Int → List Wd} (c : CInv hs R S ws) (hn : hs.length ≤ 4) (hR : R ≤ 2) : S.dn.length < 1000 := by
  have := len_counts (m := 100) c.dn fun h hh => by
    obtain ⟨t, i⟩ := c.hand h hh
    rw [i.cnt]
    exact i.bound hn hR
  have e : hs.length * 100 ≤ 4 * 100 := Nat.mul_le_mul_right _ hn
  omega
/-- at first -/
theorem CInv.zero {ps : List (Int × Int)} {R : Nat} (ne : ps ≠ []) : CInv (ps.map (·.1)) R (CS.zero ps) fun _ => [] where
  hand := fun h hh => by
    have hp : 0 < ps.length := List.length_pos_iff.mpr ne
    refine ⟨0, ⟨rfl, Nat.zero_le _, fun t' _ => rfl, fun x hx => absurd hx (by simp), ⟨0, Nat.zero_le _, ?_, rfl, ?_, .inl ⟨rfl, by rw [List.length_map]; exact hp, by simp [rnd], by simp⟩⟩, fun t' ht => absurd ht (by omega), ⟨[], [], rfl, rfl⟩, fun _ => .inl rfl, rfl⟩⟩
    · show (ps.length : Int) + 1 = _
      rw [List.length_map]
      simp
    · show ((ps.map (·.1)).length : Int) + 1 = (ps.length : Int) + 1
      rw [List.length_map]
  rd := fun h hh t ht hw => by cases hw
  one := fun t L => by
    by_cases z : (L : Int) < (ps.map (·.1)).length + 1
    · have : low (ps.map (·.1)) (CS.zero ps) t L = 0 := List.countP_eq_zero.mpr fun g _ => by
        have : lev (ps.map (·.1)).length (CS.zero ps) t g = ((ps.map (·.1)).length : Int) + 1 := rfl
        rw [this]
        simp only [decide_eq_true_eq]
        omega
      omega
    · have := low_le (hs := ps.map (·.1)) (S := CS.zero ps) (t := t) (L := L)
      omega
  wit := fun t L hL hlow => by
    by_cases z : (L : Int) < (ps.map (·.1)).length + 1
    · have : low (ps.map (·.1)) (CS.zero ps) t L = 0 := List.countP_eq_zero.mpr fun g _ => by
        have : lev (ps.map (·.1)).length (CS.zero ps) t g = ((ps.map (·.1)).length : Int) + 1 := rfl
        rw [this]
        simp only [decide_eq_true_eq]
        omega
      omega
    · have := low_le (hs := ps.map (·.1)) (S := CS.zero ps) (t := t) (L := L)
      omega
  dn := fun x hx => absurd hx (by simp [CS.zero])
end Wl

set_option maxRecDepth 100000
namespace Wl
open PySem PySem.Spec PyProof.Rows L2 PyProof
/-- a dict of new empty lists, by hands -/
structure WL (H0 : Hp) (wd : Addr) (hs : List Int) (H : Hp) (wl : Int → Addr) : Prop where
  dD : H wd = some (.dK (hs.map fun h => ((Sum.inl h : Key), V.ref (wl h))))
  ls : ∀ h ∈ hs, H (wl h) = some (.lst []) ∧ H0 (wl h) = none
  inj : ∀ h ∈ hs, ∀ g ∈ hs, wl h = wl g → h = g
  same : ∀ b o, H0 b = some o → b ≠ wd → H b = some o
theorem WL.step {H0 : Hp} {wd : Addr} {hs : List Int} {H : Hp} {wl : Int → Addr} (d : WL H0 wd hs H wl) {h : Int} (hh : h ∉ hs) {p : Addr} (np : H p = none) (n0 : H0 wd ≠ none) :
    WL H0 wd (hs ++ [h]) (upd (upd H p (.lst [])) wd (.dK (putK (hs.map fun h => ((Sum.inl h : Key), V.ref (wl h))) (.inl h : Key) (.ref p)))) (fset wl h p) := by
  have nD : wd ≠ p := ne_of_none d.dD np
  have gne : ∀ g ∈ hs, g ≠ h := fun g hg z => hh (z ▸ hg)
  have neD : ∀ g ∈ hs, wl g ≠ wd := fun g hg z => by
    have := (d.ls g hg).1
    rw [z, d.dD] at this
    cases this
  have nep : ∀ g ∈ hs, wl g ≠ p := fun g hg => ne_of_none (d.ls g hg).1 np
  have np0 : H0 p = none := by
    cases e : H0 p with
    | none => rfl
    | some o =>
      have := d.same p o e (Ne.symm nD)
      rw [np] at this
      cases this
  refine ⟨?_, fun g hg => ?_, fun g hg f hf z => ?_, fun b o e nb => ?_⟩
  · rw [upd_same, put_mk hh, List.map_append]
    have e1 : (hs.map fun g => ((Sum.inl g : Key), V.ref (wl g))) = hs.map fun g => ((Sum.inl g : Key), V.ref (fset wl h p g)) := List.map_congr_left fun g hg => by rw [fset_ne (gne g hg)]
    rw [e1]
    simp [fset_same]
  · rcases List.mem_append.mp hg with w | w
    · rw [fset_ne (gne g w), upd_ne (neD g w), upd_ne (nep g w)]
      exact d.ls g w
    · simp at w
      subst w
      rw [fset_same, upd_ne (Ne.symm nD), upd_same]
      exact ⟨rfl, np0⟩
  · rcases List.mem_append.mp hg with w | w <;> rcases List.mem_append.mp hf with v | v
    · rw [fset_ne (gne g w), fset_ne (gne f v)] at z
      exact d.inj g w f v z
    · simp at v
      rw [fset_ne (gne g w), v, fset_same] at z
      exact absurd z (nep g w)
    · simp at w
      rw [fset_ne (gne f v), w, fset_same] at z
      exact absurd z.symm (nep f v)
    · simp at w v
      rw [w, v]
  · have := d.same b o e nb
    rw [upd_ne nb, upd_ne (ne_of_none this np)]
    exact this
theorem HandI.len {n m R : Nat} {S : CS} {h : Int} {t : Nat} {ws : List Wd} (e : n = m) (i : HandI n R S h t ws) : HandI m R S h t ws := by
  subst e
  exact i
/-- the one that goes on without end is done, or it has told some number of words -/
def Gone (R : Nat) (S : CS) (zs : Int → List (Addr × Wd)) (g : Int) (i : Nat) : Prop := (S.vw g).length = R + 1 ∨ i ≤ (zs g).length
theorem burst_at {bs : List Int} {g : Int} {os : List Int} {j : Nat} {x : V} (hb : ∀ b ∈ bs, b ∈ os) (h : (bs.map V.int ++ [V.int g])[j]? = some x) : ∃ y : Int, x = .int y ∧ ((j < bs.length ∧ y ∈ os) ∨ (j = bs.length ∧ y = g)) := by
  by_cases z : j < bs.length
  · rw [List.getElem?_append_left (by rw [List.length_map]; exact z)] at h
    obtain ⟨y, hy, rfl⟩ := int_at h
    exact ⟨y, rfl, .inl ⟨z, hb y (List.mem_of_getElem? hy)⟩⟩
  · have := (List.getElem?_eq_some_iff.mp h).1
    rw [List.length_append, List.length_map] at this
    simp at this
    have e : j = bs.length := by omega
    rw [List.getElem?_append_right (by rw [List.length_map]; omega), List.length_map, e, Nat.sub_self] at h
    simp at h
    exact ⟨g, h.symm, .inr ⟨e, rfl⟩⟩
theorem StepTo.off {hs : List Int} {S S' : CS} {h : Int} {t : Nat} {x : Wd} (s : StepTo hs S h t x S') : Off S S' h := by
  cases s with
  | w p hw => exact offWrt
  | r g S' hw hg r => exact r.off.1
theorem cut_last (xs : List V) {n : Nat} (h0 : 0 < n) (hn : n ≤ xs.length) : cutV xs (some (0 - (n : Int))) none = xs.drop (xs.length - n) := by
  unfold cutV
  rw [HT.sIx_none]
  have e : HT.sIx xs.length 0 (some (0 - (n : Int))) = xs.length - n := by
    show (if (0 - (n : Int)) < 0 then ((0 - (n : Int)) + (xs.length : Int)).toNat else min (0 - (n : Int)).toNat xs.length) = _
    rw [if_pos (by omega)]
    omega
  rw [e, List.take_of_length_le]
  rw [List.length_drop]
  omega
theorem paired_en {K : PySem.W.Frag} {H : Hp} : ∀ es : List En, Paired (EqV K H 1) (es.map enV) (es.map enV)
  | [] => .nil
  | none :: r => .cons (.inl ⟨rfl, rfl⟩) (paired_en r)
  | some (p, l) :: r => .cons (.inr (.inl ⟨p, rfl, rfl⟩)) (paired_en r)
section
variable {P : Program} {w : World} {K : PySem.W.Frag} {mg : Str → Option Value} {base : Heap}
def spPickT (K : PySem.W.Frag) : Sp := fun vs H Q _ => ∃ (d l c a : Addr) (xs : List V), vs = [.ref d, .ref a] ∧ Draw H d l c ∧ H a = some (.tup xs) ∧ xs ≠ [] ∧ xs.length < 1073741824 ∧
  ∀ (k : Nat) (x : V) (H' : Hp), xs[k]? = some x → Draw H' d l c → Keep (dF d l) H H' → Q x H'
theorem ok__law_pick_t (T : Tx K mg) : FnOk P w K mg base CX0 3 T.f__law_pick.a T.f__law_pick.d ["draw", "some"] (spPickT K) := by
  refine T.f__law_pick.F.ok sc__law_pick (fun vs H Q E h => ?_) (fun cdv A outer s H vs Q E hr h => ?_)
  · obtain ⟨d, l, c, a, xs, rfl, _⟩ := h
    rfl
  · obtain ⟨d, l, c, a, xs, rfl, D, ha, hne, hlen, q⟩ := h
    have hpos : 0 < xs.length := List.length_pos_iff.mpr hne
    refine ⟨_, (pss_one (ps_ret (pe_ix (kx_tup (K := K) rfl) (pv 1) (pe_call (ok__law_take T) (hr.mono (by decide)) (by rfl) T.f__law_take.g T.f__law_take.F.kp T.f__law_take.b .nil pass0 (pa_cons (pv 0) (pa_cons (pe_callB (k_len (K := K) rfl) (by rfl) T.n_len PySem.boot_len (pa_cons (pv 1) pa_nil)) pa_nil))) (fun _ _ => rfl)))), ?_⟩
    refine ⟨_, rfl, _, rfl, _, rfl, a, xs, rfl, .inr (SqT.of ha), d, l, c, _, rfl, D, by omega, by omega, fun k H' h0 h1 D' K' => ?_⟩
    have hk : k.toNat < xs.length := by omega
    have ha' := K' _ _ ha (D.offT ha)
    refine ⟨a, xs, k, xs[k.toNat], rfl, rfl, SqT.of ha', at_of (j := k.toNat) (by omega) (List.getElem?_eq_getElem hk), ?_⟩
    exact q k.toNat _ H' (List.getElem?_eq_getElem hk) D' K'
def spLaw (K : PySem.W.Frag) : Sp := fun vs H Q _ => ∃ (a : Addr) (ns : List Int), vs = [.ref a] ∧ SqL K H a (ns.map V.int) ∧ ns.length ≤ 63 ∧ ∀ H', Q (.bl true) H'
set_option maxHeartbeats 8000000 in
theorem ok_law (T : Tx K mg) : FnOk P w K mg base CX0 12 T.f_law.a T.f_law.d ["script"] (spLaw K) := by
  refine T.f_law.F.ok sc_law (fun vs H Q E h => ?_) (fun cdv A outer s H vs Q E hr h => ?_)
  · obtain ⟨a, ns, rfl, _⟩ := h
    rfl
  · obtain ⟨a, ns, rfl, hS, hlen, q⟩ := h
    refine ⟨_, (pss_cons (ps_set (i := 1) sc_law.nd rfl (.inl rfl) (pe_call (ok__law_begun T) (hr.mono (by decide)) (by rfl) T.f__law_begun.g T.f__law_begun.F.kp T.f__law_begun.b .nil pass0 (pa_cons (pv 0) pa_nil)))
      (pss_cons (ps_set (i := 2) sc_law.nd rfl (.inl rfl) (pe_call (ok__law_hands T) (hr.mono (by decide)) (by rfl) T.f__law_hands.g T.f__law_hands.F.kp T.f__law_hands.b .nil pass0 (pa_cons (pv 1) (pa_cons pe_int pa_nil))))
      (pss_cons (ps_par (i := 3) (j := 4) rfl sc_law.nd rfl rfl (by decide) rfl rfl (pa_cons (pe_callB (k_len (K := K) rfl) (by rfl) T.n_len PySem.boot_len (pa_cons (pv 2) pa_nil)) (pa_cons (pe_op op_add pe_int (pe_call (ok__law_take T) (hr.mono (by decide)) (by rfl) T.f__law_take.g T.f__law_take.F.kp T.f__law_take.b .nil pass0 (pa_cons (pv 1) (pa_cons pe_int pa_nil)))) pa_nil)) rfl)
      (pss_cons (ps_par (i := 5) (j := 6) rfl sc_law.nd rfl rfl (by decide) rfl rfl (pa_cons (pe_make T.mk_Cells (ok_Cells___init__ T) (hr.mono (by decide)) (by rfl) T.g_Cells T.f_Cells___init__.b .nil pass0 (pa_cons (pe_call (ok__law_row T) (hr.mono (by decide)) (by rfl) T.f__law_row.g T.f__law_row.F.kp T.f__law_row.b .nil pass0 (pa_cons (pv 1) (pa_cons (pv 2) pa_nil))) (pa_cons (pv 4) pa_nil))) (pa_cons pe_dnewK pa_nil)) rfl)
      (pss_cons (ps_for PassesOwn.never rfl (pi_tup (pv 2)) (pg_name (i := 7) sc_law.nd rfl (.inl rfl))
        (pss_one (ps_dput (hu_of hr) (pv 6) (pv 7) (pe_lst pa_nil) rfl)))
      (pss_cons (ps_asg (pe_tup (pa_cons (pe_call (ok__law_pick_t T) (hr.mono (by decide)) (by rfl) T.f__law_pick.g T.f__law_pick.F.kp T.f__law_pick.b .nil pass0 (pa_cons (pv 1) (pa_cons (pv 2) pa_nil))) (pa_cons (pe_call (ok__law_take T) (hr.mono (by decide)) (by rfl) T.f__law_take.g T.f__law_take.F.kp T.f__law_take.b .nil pass0 (pa_cons (pv 1) (pa_cons pe_int pa_nil))) pa_nil))) (pg_ktup (K := K) (n := 2) rfl rfl (pgs_cons (pg_name (i := 8) sc_law.nd rfl (.inr rfl)) (pgs_cons (pg_name (i := 9) sc_law.nd rfl (.inl rfl)) pgs_nil))))
      (pss_cons (ps_setLc (i := 10) (own := [("hand", 7)]) rfl sc_law.nd rfl rfl (sw_true rfl rfl rfl (by decide +kernel)) (pi_tup (pv 2)) (blkOk_by (N := ["script", "draw", "hands", "many", "number", "cells", "words", "hand", "going", "stop", "others", "lap", "busy", "told", "some"]) (sc := defScope s_law) (by decide +kernel)) (fun _ _ _ _ _ => (pg_name (i := 7) sc_law.nd rfl (.inl rfl))) (fun _ _ _ _ _ => (pts_one (pt_cmpR op_ne (pv 7) (pv 8) (nomark _)))) (fun _ _ _ _ _ => (pv 7)))
      (pss_cons (ps_for PassesOwn.never rfl (pi_range1 (by rfl) T.n_range (pa_cons (pe_op op_mul (pe_op op_mul (pv 4) (pv 3)) (pe_op op_add (pv 3) pe_int)) pa_nil)) (pg_name (i := 11) sc_law.nd rfl (.inl rfl))
        (pss_mid (ps_set (i := 12) sc_law.nd rfl (.inl rfl) (pe_ifExp (PW.pt (pw_or (pt_cmpR (k_eqD (K := K) rfl hr.units) (pv 10) (pe_lst pa_nil) (nomark _)) (pw_or1 (pt_cmpR op_eq (pv 9) pe_int (nomark _))))) (pe_lst pa_nil) (pe_callTy (k_listOf (K := K) rfl) (by rfl) T.n_list boot_list (pa_cons (pe_call (ok__law_bursts T) (hr.mono (by decide)) (by rfl) T.f__law_bursts.g T.f__law_bursts.F.kp T.f__law_bursts.b .nil pass0 (pa_cons (pv 1) (pa_cons (pv 10) (pa_cons (pe_call (ok__law_take T) (hr.mono (by decide)) (by rfl) T.f__law_take.g T.f__law_take.F.kp T.f__law_take.b .nil pass0 (pa_cons (pv 1) (pa_cons pe_int pa_nil))) pa_nil)))) pa_nil))))
        (pss_cons (ps_for PassesOwn.never rfl (pi_list (pe_op op_cat (pv 12) (pe_lst (pa_cons (pv 8) pa_nil)))) (pg_name (i := 7) sc_law.nd rfl (.inl rfl))
          (pss_cons (ps_par (i := 13) (j := 14) rfl sc_law.nd rfl rfl (by decide) rfl rfl (pa_cons (pe_meth (pv 5) T.c_Cells T.f_Cells_step.m (ok_Cells_step T) (hr.mono (by decide)) T.f_Cells_step.b .nil pass0 (pa_cons (pv 7) pa_nil)) (pa_cons (pe_dget (hu_of hr) (pv 6) (pv 7) (fun _ _ => rfl)) pa_nil)) rfl)
          (pss_one (ps_if (pt_cmpR op_notN (pv 13) pe_non (nomark _)) (pss_one (ps_expr (pe_kbm (K := K) rfl PySem.F.plainAttrs_list PySem.F.slot_list_append PySem.F.type_list_append mt_append (pv 14) (pa_cons (pv 13) pa_nil)))) pss_nil))))
        (pss_cons (ps_if (pt_not (pt_val (pe_call (ok__law_counted T) (hr.mono (by decide)) (by rfl) T.f__law_counted.g T.f__law_counted.F.kp T.f__law_counted.b .nil pass0 (pa_cons (pv 5) (pa_cons (pv 8) (pa_cons (pe_dget (hu_of hr) (pv 6) (pv 8) (fun _ _ => rfl)) (pa_cons (pv 4) pa_nil))))))) (pss_one (ps_ret pe_bl)) pss_nil)
        (pss_one (ps_if (PW.pt (pw_and (pt_cmpR op_eq (pv 9) pe_int (nomark _)) (pw_and1 (pt_cmpR op_eq (pe_call (ok__law_take T) (hr.mono (by decide)) (by rfl) T.f__law_take.g T.f__law_take.F.kp T.f__law_take.b .nil pass0 (pa_cons (pv 1) (pa_cons pe_int pa_nil))) pe_int (nomark _))))) (pss_one (ps_set (i := 9) sc_law.nd rfl (.inl rfl) pe_int)) pss_nil))))))
      (pss_cons (ps_if (PW.pt (pw_or (pt_cmpR op_ne (pe_meth (pv 5) T.c_Cells T.f_Cells_ended.m (ok_Cells_ended T) (hr.mono (by decide)) T.f_Cells_ended.b .nil pass0 (pa_cons (pv 8) pa_nil)) (pv 4) (nomark _)) (pw_or (pt_cmpR op_notN (pe_meth (pv 5) T.c_Cells T.f_Cells_step.m (ok_Cells_step T) (hr.mono (by decide)) T.f_Cells_step.b .nil pass0 (pa_cons (pv 8) pa_nil)) pe_non (nomark _)) (pw_or1 (pt_cmpR op_ne (pe_meth (pv 5) T.c_Cells T.f_Cells_steps.m (ok_Cells_steps T) (hr.mono (by decide)) T.f_Cells_steps.b .nil pass0 (pa_cons (pv 8) pa_nil)) (pe_callB (k_len (K := K) rfl) (by rfl) T.n_len PySem.boot_len (pa_cons (pe_dget (hu_of hr) (pv 6) (pv 8) (fun _ _ => rfl)) pa_nil)) (nomark _)))))) (pss_one (ps_ret pe_bl)) pss_nil)
      (pss_cons (ps_for PassesOwn.never rfl (pi_list (pv 10)) (pg_name (i := 7) sc_law.nd rfl (.inl rfl))
        (pss_one (ps_if (PW.pt (pw_or (pt_not (pt_val (pe_call (ok__law_counted T) (hr.mono (by decide)) (by rfl) T.f__law_counted.g T.f__law_counted.F.kp T.f__law_counted.b .nil pass0 (pa_cons (pv 5) (pa_cons (pv 7) (pa_cons (pe_dget (hu_of hr) (pv 6) (pv 7) (fun _ _ => rfl)) (pa_cons (pv 4) pa_nil))))))) (pw_or1 (pt_cmpR op_ne (pe_meth (pv 5) T.c_Cells T.f_Cells_steps.m (ok_Cells_steps T) (hr.mono (by decide)) T.f_Cells_steps.b .nil pass0 (pa_cons (pv 7) pa_nil)) (pe_callB (k_len (K := K) rfl) (by rfl) T.n_len PySem.boot_len (pa_cons (pe_dget (hu_of hr) (pv 6) (pv 7) (fun _ _ => rfl)) pa_nil)) (nomark _))))) (pss_one (ps_ret pe_bl)) pss_nil)))
      (pss_one (ps_ret (pe_cmpR (k_eqV (K := K) rfl hr.units) (pe_meth (pv 5) T.c_Cells T.f_Cells_found.m (ok_Cells_found T) (hr.mono (by decide)) T.f_Cells_found.b .nil pass0 (pa_cons (pv 8) pa_nil)) (pe_lc (own := [("told", 13)]) rfl sc_law.nd (pi_list (pe_slice (k_sll (K := K) rfl) (pe_dget (hu_of hr) (pv 6) (pv 8) (fun _ _ => rfl)) (po_some (pe_op op_sub pe_int (pv 3))) po_none)) (blkOk_by (N := ["script", "draw", "hands", "many", "number", "cells", "words", "hand", "going", "stop", "others", "lap", "busy", "told", "some"]) (sc := defScope s_law) (by decide +kernel)) (fun _ _ _ _ _ => (pg_name (i := 13) sc_law.nd rfl (.inl rfl))) (fun _ _ _ _ _ => pts_nil) (fun _ _ _ _ _ => (pe_ix (kx_tup (K := K) rfl) (pv 13) pe_int (fun _ _ => rfl)))) (nomark _)))))))))))))), ?_⟩
    refine ⟨_, rfl, a, ns, rfl, hS, hlen, fun d l c H1 s1 nd nl nc D1 => ?_⟩
    -- hands, many, number
    refine ⟨_, rfl, d, l, c, rfl, D1, fun hs ph H2 hok nph eph D2 K2 => ?_⟩
    refine ⟨_, rfl, ph, _, rfl, .inr (SqT.of eph), _, rfl, d, l, c, 2, rfl, D2, by decide, by decide, fun k3 H3 k30 k32 D3 K3 => ?_⟩
    have eph3 := D2.tups K3 _ _ eph
    obtain ⟨R, hR⟩ : ∃ R : Nat, 1 + k3 = (R : Int) := ⟨(1 + k3).toNat, by omega⟩
    have hR2 : R ≤ 2 := by omega
    have hR1 : 1 ≤ R := by omega
    refine ⟨1, k3, rfl, rfl, _, _, rfl, ?_⟩
    dsimp only
    rw [hR]
    -- the row
    refine ⟨_, rfl, _, rfl, d, l, c, ph, hs, rfl, D3, eph3, hok.le, fun ps v H4 eps hv tr D4 K4 => ?_⟩
    subst eps
    have eph4 := D3.tups K4 _ _ eph3
    have hle : ps.length ≤ 4 := by have := hok.le; rwa [List.length_map] at this
    have rok : RowOk ps := ⟨fun z => hok.ne (by rw [z]; rfl), fun p hp => ⟨(hok.rg p.1 (List.mem_map_of_mem hp)).1, (hok.rg p.1 (List.mem_map_of_mem hp)).2, (hv p hp).1, (hv p hp).2⟩, hok.up⟩
    refine ⟨_, rfl, fun x dx nx ndx nxd => ?_⟩
    have nx1 : (upd H4 dx (.own x)) x = none := by rw [upd_ne (Ne.symm nxd)]; exact nx
    have s4 : Same H4 (upd (upd H4 dx (.own x)) x (.ins T.C_Cells dx [])) := (same_new ndx).trans (same_new nx1)
    refine ⟨x, dx, v, R, ps, rfl, upd_same, tr.mono (same_tups s4), rok, hle, by omega, fun H5 L0 eL c5 k5 foot5 free5 => ⟨rfl, fun wd nwd0 => ?_⟩⟩
    have s5 : Same H4 H5 := fun b o e => k5 b o (s4 b o e) (ne_of_none e nx)
    have D5 := D4.same s5
    have s6 := same_new (H := H5) (o := .dK []) nwd0
    have eph6 := s6 _ _ (s5 _ _ eph4)
    have c6 := c5.same s6
    have offn : ∀ b o, H4 b = some o → ¬ Ftp (ps.map (·.1)) R L0 b := fun b o e z => by
      rcases foot5 b z with y | y
      · rw [y, nx] at e; cases e
      · rw [s4 b o e] at y; cases y
    refine ⟨_, _, rfl, ?_⟩
    generalize hH6 : upd H5 wd (.dK []) = H6 at s6 eph6 c6
    have e6 : H6 wd = some (.dK []) := by rw [← hH6]; exact upd_same
    -- words[hand] = []
    refine ⟨_, rfl, ph, rfl, ⟨_, SqT.of eph6⟩, for_tup (K := K) (a := ph) (xs := (ps.map (·.1)).map V.int) (fun i σ H' => ∃ (wl : Int → Addr) (y7 : Option V), σ = [some (.ref a), some (.ref d), some (.ref ph), some (.int (((ps.map (·.1)).map V.int).length : Nat)), some (.int R), some (.ref x), some (.ref wd), y7, none, none, none, none, none, none, none] ∧ WL H6 wd ((ps.map (·.1)).take i) H' wl)
      ⟨fun _ => x, none, rfl, ⟨e6, fun h hh => absurd hh (by simp), fun h hh => absurd hh (by simp), fun b o e _ => e⟩⟩ (fun i σ H' _ ⟨wl, y7, _, w⟩ => SqT.of (w.same _ _ eph6 (fun z => by rw [z, e6] at eph6; cases eph6))) ?_ ?_⟩
    · rintro i y σ H7 hy ⟨wl, y7, rfl, w⟩
      obtain ⟨h, hh, rfl⟩ := int_at hy
      have hnew : h ∉ (ps.map (·.1)).take i := fun z => by
        obtain ⟨j, hj, ej⟩ := List.mem_iff_getElem.mp z
        rw [List.length_take] at hj
        rw [List.getElem_take] at ej
        have h2 : (ps.map (·.1))[j]? = some h := by rw [← ej]; exact List.getElem?_eq_getElem (by omega)
        exact absurd (pw_get rok.up (i := j) (j := i) (by omega) h2 hh) (Int.lt_irrefl _)
      refine ⟨Nat.zero_le _, fun p np => ⟨_, rfl, _, rfl, wd, _, rfl, dput (k := Sum.inl h) (same_new np _ _ w.dD) ?_ rfl, ?_⟩⟩
      · rw [List.length_map, List.length_take, List.length_map]
        exact small1000 (by omega)
      · refine ⟨fset wl h p, _, rfl, ?_⟩
        have := w.step hnew np (by rw [e6]; exact fun z => nomatch z)
        rw [List.take_add_one, hh]
        exact this
    rintro σ H7 ⟨wl, y7, rfl, w⟩
    rw [List.length_map, List.take_of_length_le (Nat.le_refl _)] at w
    have k7 : Keep (fun b => b = wd) H6 H7 := fun b o e n => w.same b o e n
    have nw : ∀ b o, H5 b = some o → b ≠ wd := fun b o e => ne_of_none e nwd0
    have D7 : Draw H7 d l c := by
      obtain ⟨⟨_, _, _, _, e1, e2, e3⟩, _⟩ := id D5
      exact (D5.same s6).keep k7 (nw _ _ e1) (nw _ _ e2) (nw _ _ e3)
    have law0 : LawAt T.C_Cells H7 ps R L0 (CS.zero ps) d l c wd wl (fun _ => []) [] := by
      obtain ⟨⟨_, _, _, _, e1, e2, e3⟩, _⟩ := id D4
      have f1 := s6 _ _ (s5 _ _ e1)
      have f2 := s6 _ _ (s5 _ _ e2)
      have f3 := s6 _ _ (s5 _ _ e3)
      have offwd : ¬ Ftp (ps.map (·.1)) R L0 wd := c5.off nwd0
      refine ⟨D7, c6.keep k7 (fun b xs e => w.same _ _ e fun z => by rw [z, e6] at e; cases e) (fun b hb => by rw [hb]; exact offwd), ⟨_, w.dD, dictOf_mk _⟩, fun h hh => ⟨(w.ls h hh).1, fun z hz => absurd hz (by simp)⟩, w.inj, fun b hb => ?_, fun z => ?_, fun h hh => ⟨fun z => ?_, fun z => ?_⟩, fun f hf => absurd hf (by simp), CInv.zero rok.ne⟩
      · rcases hb with z | z | z | z | ⟨g, hg, z⟩ | ⟨f, hf, z⟩
        · rw [z]; exact offn _ _ e1
        · rw [z]; exact offn _ _ e2
        · rw [z]; exact offn _ _ e3
        · rw [z]; exact offwd
        · rw [z]; exact c6.off (w.ls g hg).2
        · exact absurd hf (by simp)
      · exact nw _ _ (s5 _ _ e1) z.symm
      · have := (w.ls h hh).2; rw [z, f2] at this; cases this
      · have := (w.ls h hh).2; rw [z, f3] at this; cases this
    have eph7 : H7 ph = some (.tup ((ps.map (·.1)).map V.int)) := w.same _ _ eph6 (fun z => by rw [z, e6] at eph6; cases eph6)
    clear K2 K3 K4 s4 s5 s6 k7 offn foot5 free5 k5 c5 c6 D5
    -- going, stop
    have hne : (ps.map (·.1)).map V.int ≠ [] := fun z => hok.ne (by simpa using z)
    refine ⟨_, rfl, _, rfl, d, l, c, ph, _, rfl, D7, eph7, hne, by rw [List.length_map, List.length_map]; omega, fun kg y H8 hy D8 K8 => ?_⟩
    obtain ⟨g, hg, rfl⟩ := int_at hy
    have hgm := List.mem_of_getElem? hg
    have law8 := law0.drawn K8 D8
    have eph8 := D7.tups K8 _ _ eph7
    refine ⟨_, rfl, d, l, c, 3, rfl, D8, by decide, by decide, fun st0 H9 st0a st0b D9 K9 => ?_⟩
    have law9 := law8.drawn K9 D9
    have eph9 := D8.tups K9 _ _ eph8
    refine ⟨by show 2 ≤ sizeLine; decide, fun tp ntp => ⟨tp, _, rfl, SqT.of upd_same, rfl, _, _, rfl, _, _, rfl, rfl, ?_⟩⟩
    have law10 := law9.same (same_new (o := .tup [.int g, .int st0]) ntp)
    have eph10 := same_new (o := .tup [.int g, .int st0]) ntp _ _ eph9
    generalize upd H9 tp (.tup [.int g, .int st0]) = H10 at law10 eph10
    -- others
    refine ⟨_, rfl, ph, rfl, ⟨_, SqT.of eph10⟩, fun ot not => lc_tup (K := K) (a := ph) (xs := (ps.map (·.1)).map V.int) (fun i H' => H' ot = some (.lst ((((ps.map (·.1)).take i).filter fun h => !decide (h = g)).map V.int)) ∧ Same H10 H')
      ⟨upd_same, same_new not⟩ (fun i H' _ ⟨_, s'⟩ => SqT.of (s' _ _ eph10)) ?_ ?_⟩
    · rintro i y H' hy ⟨eo, s'⟩
      obtain ⟨h, hh, rfl⟩ := int_at hy
      have hi := (List.getElem?_eq_some_iff.mp hh).1
      rw [List.length_map] at hi
      have ft := filt_take (p := fun h : Int => !decide (h = g)) hh
      refine ⟨rfl, _, rfl, _, rfl, rfl, !decide (h = g), ?_, ite2 (fun e => ?_) (fun e => ?_)⟩
      · refine congrArg V.bl ?_
        by_cases z : h = g
        · rw [z]; simp
        · simp [z]
      · refine ⟨_, rfl, _, eo, ?_, ?_, fun b o e => ?_⟩
        · rw [List.length_map]
          have := List.length_filter_le (fun h : Int => !decide (h = g)) ((ps.map (·.1)).take i)
          rw [List.length_take, List.length_map] at this
          exact small1000 (by omega)
        · rw [upd_same, ft, if_pos e, List.map_append]
          rfl
        · rw [upd_ne (ne_of_none e not)]
          exact s' b o e
      · refine ⟨?_, s'⟩
        rw [eo, ft, if_neg e, List.append_nil]
    rintro H11 ⟨eo, s11⟩
    rw [List.length_map, List.take_of_length_le (Nat.le_refl _)] at eo
    have law11 := law10.addf s11 not eo
    obtain ⟨os, hos⟩ : ∃ os, os = (ps.map (·.1)).filter fun h => !decide (h = g) := ⟨_, rfl⟩
    rw [← hos] at law11
    have osm : ∀ h ∈ os, h ∈ ps.map (·.1) ∧ h ≠ g := fun h hh => by
      rw [hos] at hh
      have := List.mem_filter.mp hh
      exact ⟨this.1, by simpa using this.2⟩
    have osl : os.length ≤ 4 := by
      have := List.length_filter_le (fun h : Int => !decide (h = g)) (ps.map (·.1))
      rw [← hos, List.length_map] at this
      omega
    clear law10 law9 law8 law0 eo s11 not hos eph10 eph9 eph8 eph7 D9 D8 D7 K8 K9
    have hml : ((ps.map (·.1)).map V.int).length = ps.length := by rw [List.length_map, List.length_map]
    rw [hml]
    have hml2 : (ps.map (·.1)).length = ps.length := List.length_map _
    have nd0 := nodup_of_lt rok.up
    clear w e6 eph6 hH6 nwd0 nw hne hy hg
    -- the laps
    have hN : ((R : Int) * (ps.length : Int) * ((ps.length : Int) + 1)).toNat = R * (ps.length * (ps.length + 1)) := by
      rw [show (R : Int) * (ps.length : Int) * ((ps.length : Int) + 1) = ((R * (ps.length * (ps.length + 1)) : Nat) : Int) by push_cast; rw [Int.mul_assoc]]
      exact Int.toNat_natCast _
    have hNb : R * (ps.length * (ps.length + 1)) ≤ 2 * (4 * 5) := Nat.mul_le_mul hR2 (Nat.mul_le_mul hle (by omega))
    have hNi : (R : Int) * (ps.length : Int) * ((ps.length : Int) + 1) = ((R * (ps.length * (ps.length + 1)) : Nat) : Int) := by push_cast; rw [Int.mul_assoc]
    refine ⟨_, rfl, _, rfl, _, _, rfl, rfl, .inl ⟨by omega, by omega⟩, _, rfl, _, 1, rfl, rfl, _, _, rfl, rfl, .inr ⟨by omega, by omega⟩, _, rfl, by rw [hNi]; omega, by rw [hNi]; omega, ?_⟩
    rw [hN]
    refine for_range (lo := 0) (fun i σ H' => ∃ (L : Lay) (S : CS) (zs : Int → List (Addr × Wd)) (st : Int) (y7 y11 y12 y13 y14 : Option V), σ = [some (.ref a), some (.ref d), some (.ref ph), some (.int (ps.length : Nat)), some (.int R), some (.ref x), some (.ref wd), y7, some (.int g), some (.int st), some (.ref ot), y11, y12, y13, y14] ∧
        L.p = x ∧ LawAt T.C_Cells H' ps R L S d l c wd wl zs [(ot, os.map V.int)] ∧ Gone R S zs g i)
      ⟨L0, CS.zero ps, fun _ => [], st0, y7, none, none, none, none, rfl, eL, law11, .inr (Nat.zero_le _)⟩ ?_ ?_
    · rintro i σ H12 hi ⟨L, S, zs, st, y7, y11, y12, y13, y14, rfl, eL, lw, gn⟩
      -- busy
      refine ⟨fun σ H' => ∃ (b : Addr) (bs : List Int), σ = [some (.ref a), some (.ref d), some (.ref ph), some (.int (ps.length : Nat)), some (.int R), some (.ref x), some (.ref wd), y7, some (.int g), some (.int st), some (.ref ot), some (.int (0 + i)), some (.ref b), y13, y14] ∧
        H' b = some (.lst (bs.map V.int)) ∧ (∀ h ∈ bs, h ∈ os) ∧ bs.length ≤ 200 ∧ LawAt T.C_Cells H' ps R L S d l c wd wl zs [(ot, os.map V.int)], ?_, ?_⟩
      · have eot := (lw.fz _ (List.mem_singleton.mpr rfl)).1
        have nol := (lw.fz _ (List.mem_singleton.mpr rfl)).2.1
        refine ⟨_, rfl, Nat.zero_le _, fun p np => ⟨.list (os.map PyData.int), .list [], .lst (SqL.of (same_new np _ _ eot)) (dpInts os), .lst (SqL.of upd_same) .nil, shapedInts os, shapedNil, _, rfl, ?_⟩⟩
        have lw1 := lw.same (same_new (o := .lst []) np)
        have eot1 := same_new (o := .lst []) np _ _ eot
        generalize upd H12 p (.lst []) = H13 at lw1 eot1
        refine ite2 (fun e => iteT ⟨Nat.zero_le _, fun b nb => ?_⟩) (fun e => ?_)
        · exact ⟨b, [], rfl, upd_same, fun h hh => absurd hh (by simp), by simp, lw1.same (same_new nb)⟩
        have osne : os ≠ [] := fun z => e (by rw [z]; rfl)
        refine ⟨_, rfl, rfl, _, rfl, ite2 (fun e2 => ⟨Nat.zero_le _, fun b nb => ?_⟩) (fun e2 => ?_)⟩
        · exact ⟨b, [], rfl, upd_same, fun h hh => absurd hh (by simp), by simp, lw1.same (same_new nb)⟩
        · refine ⟨_, rfl, _, rfl, _, rfl, d, l, c, 3, rfl, lw1.draw, by decide, by decide, fun k H14 k0 k3 D14 K14 => ?_⟩
          have lw2 := lw1.drawn K14 D14
          have eot2 := (lw2.fz _ (List.mem_singleton.mpr rfl)).1
          refine ⟨d, l, c, ot, os, k.toNat, ?_, D14, eot2, nol, osne, osl, by omega, fun fs p2 H15 hfs hfl np2 ep2 D15 K15 => ?_⟩
          · show [V.ref d, V.ref ot, V.int k] = _
            rw [show ((k.toNat : Nat) : Int) = k by omega]
          · have lw3 := lw2.drawn K15 D15
            refine ⟨p2, _, rfl, .inr (SqT.of ep2), fun b nb => ?_⟩
            exact ⟨b, fs, rfl, upd_same, hfs, hfl, lw3.same (same_new nb)⟩
      rintro σ H16 ⟨b, bs, rfl, eb, hbs, hbl, lw4⟩
      -- for hand in busy + [going]
      refine ⟨_, rfl, _, rfl, by show 1 ≤ sizeLine; decide, fun p np => ⟨b, p, _, _, rfl, rfl, same_new np _ _ eb, upd_same, ?_, fun q4 nq4 => ⟨q4, rfl, ⟨_, SqL.of upd_same⟩, ?_⟩⟩⟩
      · rw [List.length_map]
        show bs.length + 1 ≤ sizeLine
        exact Nat.le_of_lt (small1000 (by omega))
      have lw5 := (lw4.same (same_new (o := .lst [.int g]) np)).addf (same_new (o := .lst (bs.map V.int ++ [.int g])) nq4) nq4 upd_same
      generalize upd (upd H16 p (.lst [.int g])) q4 (.lst (bs.map V.int ++ [.int g])) = H17 at lw5
      refine for_list (K := K) (a := q4) (xs := bs.map V.int ++ [.int g]) (fun j σ H' => ∃ (L : Lay) (S : CS) (zs : Int → List (Addr × Wd)) (y7 y13 y14 : Option V), σ = [some (.ref a), some (.ref d), some (.ref ph), some (.int (ps.length : Nat)), some (.int R), some (.ref x), some (.ref wd), y7, some (.int g), some (.int st), some (.ref ot), some (.int (0 + i)), some (.ref b), y13, y14] ∧
          L.p = x ∧ LawAt T.C_Cells H' ps R L S d l c wd wl zs [(q4, bs.map V.int ++ [.int g]), (ot, os.map V.int)] ∧ Gone R S zs g (i + if bs.length < j then 1 else 0))
        ⟨L, S, zs, y7, y13, y14, rfl, eL, lw5, by rw [if_neg (by omega)]; exact gn⟩ (fun j σ H' _ ⟨_, _, _, _, _, _, _, _, lw', _⟩ => SqL.of (lw'.fz _ List.mem_cons_self).1) ?_ ?_
      · clear lw5 lw4 lw gn eL L S zs y7 y11 y12 y13 y14 eb
        rintro j y σ H18 hy ⟨L, S, zs, y7, y13, y14, rfl, rfl, lw, gn⟩
        obtain ⟨h, rfl, hj⟩ := burst_at hbs hy
        have hh : h ∈ ps.map (·.1) := by
          rcases hj with ⟨_, z⟩ | ⟨_, z⟩
          · exact (osm h z).1
          · rw [z]; exact hgm
        obtain ⟨t, hi⟩ := lw.inv.hand h hh
        have het := hi.et
        have hcL := hi.le
        by_cases htR : t < R
        · refine ⟨_, rfl, L.p, L.dx, _, rfl, lw.cells.ins, rfl, _, rfl, ps, R, L, S, h, rfl, lw.cells, hh, .inr ⟨t, het, htR, lw.inv.dnb (by rw [hml2]; exact hle) hR2, ?_, fun H19 L' S' wdd u m eL' nu eu c' st' => ?_⟩⟩
          · intro hw
            obtain ⟨k, _, _, _, _, phs⟩ := hi.cur
            rcases phs with ⟨z, _⟩ | ⟨_, _, z, _⟩
            · rw [hw] at z; cases z
            · rw [hml2] at z; exact z
          obtain ⟨dg, el⟩ := lw.mid m hh
          refine ⟨_, rfl, _, rfl, wd, _, rfl, dg, _, _, rfl, ?_⟩
          refine ⟨_, rfl, rfl, true, congrArg V.bl (by simp), iteT ?_⟩
          refine ⟨_, rfl, .inl ⟨rfl, _, SqL.of el⟩, _, rfl, wl h, _, _, rfl, rfl, el, ?_, ?_⟩
          · rw [List.length_map]
            have := hi.bound (by rw [hml2]; exact hle) hR2
            rw [List.length_map] at this
            exact small1000 (by omega)
          · refine ⟨L', S', _, _, _, _, rfl, eL', lw.step m hh het htR nu eu c' st', ?_⟩
            have of := st'.off
            rcases hj with ⟨z, zo⟩ | ⟨z, rfl⟩
            · have hg : g ≠ h := Ne.symm (osm h zo).2
              rw [if_neg (by omega)] at gn ⊢
              unfold Gone
              rw [of.vw g hg, fset_ne hg]
              exact gn
            · rw [if_neg (by omega)] at gn
              rw [if_pos (by omega)]
              refine .inr ?_
              rw [fset_same, List.length_append]
              rcases gn with y | y
              · omega
              · show i + 1 ≤ (zs h).length + 1
                omega
        · refine ⟨_, rfl, L.p, L.dx, _, rfl, lw.cells.ins, rfl, _, rfl, ps, R, L, S, h, rfl, lw.cells, hh, .inl ⟨by omega, fun H19 s19 => ?_⟩⟩
          have lw1 := lw.same s19
          obtain ⟨dg, el⟩ := lw1.mid Moved.rfl' hh
          refine ⟨_, rfl, _, rfl, wd, _, rfl, dg, _, _, rfl, ?_⟩
          refine ⟨_, rfl, rfl, false, congrArg V.bl (by simp), iteF ?_⟩
          refine ⟨L, S, zs, _, _, _, rfl, rfl, lw1, ?_⟩
          rcases hj with ⟨z, zo⟩ | ⟨z, rfl⟩
          · rw [if_neg (by omega)] at gn ⊢
            exact gn
          · exact .inl (by omega)
      · clear lw5 lw4 lw gn eL L S zs y7 y11 y12 y13 y14 eb
        rintro σ H18 ⟨L, S, zs, y7, y13, y14, rfl, rfl, lw', gn⟩
        rw [List.length_append, List.length_map, if_pos (by show bs.length < bs.length + 1; omega)] at gn
        have lw : LawAt T.C_Cells H18 ps R L S d l c wd wl zs [(ot, os.map V.int)] := lw'.drop fun f hf => by
          rw [List.mem_singleton.mp hf]
          simp
        -- counted
        obtain ⟨t, hi⟩ := lw.inv.hand g hgm
        have hb := hi.bound (by rw [hml2]; exact hle) hR2
        rw [List.length_map] at hb
        refine ⟨_, rfl, _, rfl, _, rfl, _, rfl, wd, _, rfl, (lw.mid Moved.rfl' hgm).1, _, rfl, ps, R, L, S, g, wl g, zs g, t, rfl, lw.cells, hgm, lw.words g hgm, by omega, hi.len hml2, fun H19 s19 => ⟨true, rfl, iteF ?_⟩⟩
        have lw1 := lw.same s19
        -- stop
        refine ⟨_, rfl, rfl, _, rfl, ite2 (fun e => ⟨_, rfl, d, l, c, 8, rfl, lw1.draw, by decide, by decide, fun k H20 k0 k8 D20 K20 => ⟨rfl, _, rfl, ite2 (fun e => ?_) (fun e => ?_)⟩⟩) (fun e => iteF ?_)⟩
        · exact ⟨L, S, zs, 0, _, _, _, _, _, rfl, rfl, lw1.drawn K20 D20, gn⟩
        · exact ⟨L, S, zs, st, _, _, _, _, _, rfl, rfl, lw1.drawn K20 D20, gn⟩
        · exact ⟨L, S, zs, st, _, _, _, _, _, rfl, rfl, lw1, gn⟩
    · clear law11
      rintro σ H12 ⟨L, S, zs, st, y7, y11, y12, y13, y14, rfl, rfl, lw, gn⟩
      obtain ⟨t, hi⟩ := lw.inv.hand g hgm
      have het := hi.et
      have htR : t = R := by
        rcases gn with z | z
        · omega
        · exact hi.fin (by rw [hml2, List.length_map]; exact z)
      subst htR
      -- ended, step, steps
      refine ⟨_, rfl, L.p, L.dx, _, rfl, lw.cells.ins, rfl, _, rfl, ps, t, L, S, g, rfl, lw.cells, hgm, fun H13 s13 => ?_⟩
      have lw1 := lw.same s13
      refine ⟨_, rfl, rfl, false, ?_, iteF ?_⟩
      · refine congrArg V.bl ?_
        rw [decide_eq_true (congrArg V.int (show ((S.vw g).length : Int) - 1 = (t : Int) by omega))]
        rfl
      refine ⟨_, rfl, L.p, L.dx, _, rfl, lw1.cells.ins, rfl, _, rfl, ps, t, L, S, g, rfl, lw1.cells, hgm, .inl ⟨het.symm, fun H14 s14 => ⟨rfl, false, congrArg V.bl (by simp), iteF ?_⟩⟩⟩
      have lw2 := lw1.same s14
      refine ⟨_, rfl, L.p, L.dx, _, rfl, lw2.cells.ins, rfl, _, rfl, ps, t, L, S, g, rfl, lw2.cells, hgm, fun H15 s15 => ?_⟩
      have lw3 := lw2.same s15
      obtain ⟨dg3, el3⟩ := lw3.mid Moved.rfl' hgm
      refine ⟨_, rfl, _, rfl, wd, _, rfl, dg3, wl g, _, rfl, .inl (SqL.of el3), rfl, false, ?_, iteF ?_⟩
      · refine congrArg V.bl ?_
        rw [decide_eq_true (congrArg V.int (show ((S.dn.count g : Nat) : Int) = (((zs g).map fun z => V.ref z.1).length : Int) by rw [hi.cnt, List.length_map, List.length_map]))]
        rfl
      -- the others
      have eot3 := (lw3.fz _ (List.mem_singleton.mpr rfl)).1
      refine ⟨_, rfl, ot, rfl, ⟨_, SqL.of eot3⟩, for_list (K := K) (a := ot) (xs := os.map V.int) (fun i σ H' => ∃ y7 : Option V, σ = [some (.ref a), some (.ref d), some (.ref ph), some (.int (ps.length : Nat)), some (.int t), some (.ref L.p), some (.ref wd), y7, some (.int g), some (.int st), some (.ref ot), y11, y12, y13, y14] ∧ Same H15 H')
        ⟨y7, rfl, fun _ _ e => e⟩ (fun i σ H' _ ⟨_, _, s'⟩ => SqL.of (s' _ _ eot3)) ?_ ?_⟩
      · rintro i y σ H16 hy ⟨y7, rfl, s16⟩
        obtain ⟨h, hh, rfl⟩ := int_at hy
        have hhm := (osm h (List.mem_of_getElem? hh)).1
        have lw4 := lw3.same s16
        obtain ⟨t', hi'⟩ := lw4.inv.hand h hhm
        have hb := hi'.bound (by rw [hml2]; exact hle) hR2
        rw [List.length_map] at hb
        refine ⟨_, rfl, _, rfl, _, rfl, _, rfl, wd, _, rfl, (lw4.mid Moved.rfl' hhm).1, _, rfl, ps, t, L, S, h, wl h, zs h, t', rfl, lw4.cells, hhm, lw4.words h hhm, by omega, hi'.len hml2, fun H17 s17 => ⟨true, rfl, iteF ?_⟩⟩
        have lw5 := lw4.same s17
        refine ⟨_, rfl, L.p, L.dx, _, rfl, lw5.cells.ins, rfl, _, rfl, ps, t, L, S, h, rfl, lw5.cells, hhm, fun H18 s18 => ?_⟩
        have lw6 := lw5.same s18
        obtain ⟨dg6, el6⟩ := lw6.mid Moved.rfl' hhm
        refine ⟨_, rfl, _, rfl, wd, _, rfl, dg6, wl h, _, rfl, .inl (SqL.of el6), rfl, false, ?_, iteF ?_⟩
        · refine congrArg V.bl ?_
          rw [decide_eq_true (congrArg V.int (show ((S.dn.count h : Nat) : Int) = (((zs h).map fun z => V.ref z.1).length : Int) by rw [hi'.cnt, List.length_map, List.length_map]))]
          rfl
        · exact ⟨_, rfl, (s16.trans s17).trans s18⟩
      rintro σ H16 ⟨y7', rfl, s16⟩
      have lw4 := lw3.same s16
      -- what is found
      refine ⟨_, rfl, L.p, L.dx, _, rfl, lw4.cells.ins, rfl, _, rfl, ps, t, L, S, g, rfl, lw4.cells, hgm, fun H17 u s17 nu eu => ?_⟩
      have lw5 := lw4.same s17
      obtain ⟨dg5, el5⟩ := lw5.mid Moved.rfl' hgm
      have hw5 := lw5.words g hgm
      refine ⟨_, rfl, _, rfl, wd, _, rfl, dg5, _, rfl, 0, _, rfl, rfl, _, rfl, wl g, _, rfl, SqL.of el5, fun p np => ?_⟩
      -- the last words
      have hpl : 0 < ps.length := List.length_pos_iff.mpr rok.ne
      have hwr : S.wr g = true := by
        obtain ⟨k, _, _, _, _, phs⟩ := hi.cur
        rcases phs with ⟨z, _⟩ | ⟨_, z, _⟩
        · exact z
        · omega
      have hfd : (S.fd g).length = ps.length := by
        rcases hi.full hwr with z | z
        · obtain ⟨k, v', s', k0, _, _, _, _, hr'⟩ := hi.ended 0 (by omega)
          rw [z] at hr'
          have : 0 < k * ((ps.map (·.1)).length + 1) := Nat.mul_pos k0 (Nat.succ_pos _)
          rw [← hr'] at this
          simp [rnd] at this
        · rw [z, hml2]
      obtain ⟨pre, rds, e1, e2⟩ := hi.tail
      have hrl : rds.length = ps.length := by
        have := congrArg List.length e2
        rw [List.length_map, List.length_map] at this
        omega
      have hzl : (zs g).length = pre.length + rds.length := by
        have := congrArg List.length e1
        rwa [List.length_map, List.length_append] at this
      rw [cut_last _ hpl (by rw [List.length_map]; omega), List.length_map, ← List.map_drop]
      generalize hzr : (zs g).drop ((zs g).length - ps.length) = zr
      have e3 : zr.map (·.2) = rds := by
        rw [← hzr, List.map_drop, e1, show (zs g).length - ps.length = pre.length by omega, List.drop_left']
        rfl
      have e4 : (zr.map (·.2)).map Wd.en = (S.fd g).map some := by rw [e3, e2]
      have hzn : zr.length = ps.length := by
        have := congrArg List.length e3
        rw [List.length_map] at this
        omega
      have wzr : ∀ z ∈ zr, H17 z.1 = some (.tup z.2.its) := fun z hz => hw5.t z (List.mem_of_mem_drop (hzr ▸ hz))
      have s18 := same_new (H := H17) (o := .lst (zr.map fun z => V.ref z.1)) np
      have ep := upd_same (H := H17) (a := p) (o := .lst (zr.map fun z => V.ref z.1))
      generalize upd H17 p (.lst (zr.map fun z => V.ref z.1)) = H18 at s18 ep
      refine ⟨p, rfl, ⟨_, SqL.of ep⟩, fun D nD => lc_list (K := K) (a := p) (xs := zr.map fun z => V.ref z.1) (fun i H' => H' D = some (.lst (((S.fd g).take i).map enV)) ∧ Same H18 H')
        ⟨upd_same, same_new nD⟩ (fun i H' _ ⟨_, s'⟩ => SqL.of (s' _ _ ep)) ?_ ?_⟩
      · rintro i y H' hy ⟨eD, s'⟩
        obtain ⟨z, hz, rfl⟩ := word_at hy
        have ez := s' _ _ (s18 _ _ (wzr z (List.mem_of_getElem? hz)))
        have hil := (List.getElem?_eq_some_iff.mp hz).1
        have hif : i < (S.fd g).length := by omega
        have hen : z.2.en = some (S.fd g)[i] := by
          have := congrArg (fun l => l[i]?) e4
          simp only [List.getElem?_map, hz, List.getElem?_eq_getElem hif, Option.map_some] at this
          exact Option.some.inj this
        refine ⟨rfl, _, rfl, z.1, _, 3, _, rfl, rfl, SqT.of ez, atI_nat (j := 3) (Wd.its3 hen), _, eD, ?_, ?_, fun b o e => ?_⟩
        · rw [List.length_map, List.length_take]
          exact small1000 (by omega)
        · rw [upd_same, List.take_add_one, List.getElem?_eq_getElem hif, List.map_append]
          rfl
        · rw [upd_ne (ne_of_none e nD)]
          exact s' b o e
      rintro H19 ⟨eD, s19⟩
      rw [List.length_map, List.take_of_length_le (by omega)] at eD
      exact ⟨1, by decide, .inl ⟨u, D, _, _, rfl, rfl, SqL.of (s19 _ _ (s18 _ _ eu)), SqL.of eD, paired_en _⟩, q _⟩
end
end Wl


set_option pp.maxSteps 60
set_option maxRecDepth 100000
namespace Wl
open PySem PySem.Spec PyProof.Rows L2
theorem fin {l : PySem.W.OpenLaw} {w : World} {K : PySem.W.Frag} {h : Heap} {mg : Str → Option Value} {fa : Addr} (hfa : mg "law" = some (.ref fa)) (T : Tx K mg) :
    ∃ fd : FuncData, (∀ (s : Shared) (v : Value), BindsTo s fd ⟨[v], []⟩ [("script", v)]) ∧ ∀ base : Heap, K.In base → base.Ns mainGlobals mg → FnOk l.prog w K mg base CX0 12 fa fd ["script"] (spLaw K) := by
  have e := hfa.symm.trans T.f_law.g
  cases e
  refine ⟨T.f_law.d, fun s v => ?_, fun base _ _ => ok_law T⟩
  obtain ⟨oc, od, kV, doc, pm, an, cdv, ct, osl, e, _⟩ := T.f_law.F.ex
  rw [e]
  exact .of_eq rfl
end Wl
open PySem PySem.W PyProof.Rows
set_option maxHeartbeats 0 in
theorem PySem.Challenge.cw_waitless_k20_whole_steps_of_a_round_exac_holds : PySem.Challenge.rw_waitless_k20_whole_steps_of_a_round_exac.Holds := by
  w_on; o_law; k_head; (case hw => w_witness2)
  k_fill
  refine L2.walk_of (l := PySem.Challenge.rw_waitless_k20_whole_steps_of_a_round_exac) (n := 63) (k := 12) (x := "script") (CX := fun _ => L2.CX0) (sp := fun w => Wl.spLaw _) rfl (by decide) rfl ⟨rfl, by decide, by decide⟩ (fun w h Y => PySem.W.kIn_of Y) ?F (fun _ _ a ns hl _ hS => ⟨a, ns, rfl, hS, hl, fun _ => rfl⟩) (fun _ _ _ _ _ h => h)
  case F =>
    intro w mg fa h KX G hmg
    refine' Wl.fin (l := PySem.Challenge.rw_waitless_k20_whole_steps_of_a_round_exac) (h := h) hmg
      { C_Cells := _,
        c_Cells := ⟨?pgCells, ?hdCells, ?poCells, ?saCells⟩,
        g_Cells := PySem.W.mg_of KX G ?gCells,
        f_is_number := Wl.defOf_mk KX G ?a1 ?l1 ?c1 ?k1 (fun _ _ _ _ _ _ us hl => match us, hl with | [_], _ => rfl),
        f_is_between := Wl.defOf_mk KX G ?a2 ?l2 ?c2 ?k2 (fun _ _ _ _ _ _ us hl => match us, hl with | [_, _, _], _ => rfl),
        f_is_row := Wl.defOf_mk KX G ?a3 ?l3 ?c3 ?k3 (fun _ _ _ _ _ _ us hl => match us, hl with | [_], _ => rfl),
        f_need_row := Wl.defOf_mk KX G ?a4 ?l4 ?c4 ?k4 (fun _ _ _ _ _ _ us hl => match us, hl with | [_], _ => rfl),
        f_hands_by := Wl.defOf_mk KX G ?a5 ?l5 ?c5 ?k5 (fun _ _ _ _ _ _ us hl => match us, hl with | [_], _ => rfl),
        f_is_hand := Wl.defOf_mk KX G ?a6 ?l6 ?c6 ?k6 (fun _ _ _ _ _ _ us hl => match us, hl with | [_], _ => rfl),
        f_need_hand := Wl.defOf_mk KX G ?a7 ?l7 ?c7 ?k7 (fun _ _ _ _ _ _ us hl => match us, hl with | [_], _ => rfl),
        f_need_rounds := Wl.defOf_mk KX G ?a8 ?l8 ?c8 ?k8 (fun _ _ _ _ _ _ us hl => match us, hl with | [_, _], _ => rfl),
        f_need_one_of := Wl.defOf_mk KX G ?a9 ?l9 ?c9 ?k9 (fun _ _ _ _ _ _ us hl => match us, hl with | [_, _], _ => rfl),
        f_need_moment := Wl.defOf_mk KX G ?a10 ?l10 ?c10 ?k10 (fun _ _ _ _ _ _ us hl => match us, hl with | [_, _, _], _ => rfl),
        f_Cells___init__ := Wl.metOf_mk ?a11 ?i11 ?l11 ?c11 ?k11 (fun _ _ _ _ _ _ us hl => match us, hl with | [_, _, _], _ => rfl),
        f_Cells__write := Wl.metOf_mk ?a12 ?i12 ?l12 ?c12 ?k12 (fun _ _ _ _ _ _ us hl => match us, hl with | [_, _, _], _ => rfl),
        f_Cells__read := Wl.metOf_mk ?a13 ?i13 ?l13 ?c13 ?k13 (fun _ _ _ _ _ _ us hl => match us, hl with | [_, _, _], _ => rfl),
        f_Cells_step := Wl.metOf_mk ?a14 ?i14 ?l14 ?c14 ?k14 (fun _ _ _ _ _ _ us hl => match us, hl with | [_, _], _ => rfl),
        f_Cells_view := Wl.metOf_mk ?a15 ?i15 ?l15 ?c15 ?k15 (fun _ _ _ _ _ _ us hl => match us, hl with | [_, _, _], _ => rfl),
        f_Cells_ended := Wl.metOf_mk ?a16 ?i16 ?l16 ?c16 ?k16 (fun _ _ _ _ _ _ us hl => match us, hl with | [_, _], _ => rfl),
        f_Cells_steps := Wl.metOf_mk ?a17 ?i17 ?l17 ?c17 ?k17 (fun _ _ _ _ _ _ us hl => match us, hl with | [_, _], _ => rfl),
        f_Cells_found := Wl.metOf_mk ?a18 ?i18 ?l18 ?c18 ?k18 (fun _ _ _ _ _ _ us hl => match us, hl with | [_, _], _ => rfl),
        f__law_begun := Wl.defOf_mk KX G ?a19 ?l19 ?c19 ?k19 (fun _ _ _ _ _ _ us hl => match us, hl with | [_], _ => rfl),
        f__law_blend := Wl.defOf_mk KX G ?a20 ?l20 ?c20 ?k20 (fun _ _ _ _ _ _ us hl => match us, hl with | [_], _ => rfl),
        f__law_take := Wl.defOf_mk KX G ?a21 ?l21 ?c21 ?k21 (fun _ _ _ _ _ _ us hl => match us, hl with | [_, _], _ => rfl),
        f__law_pick := Wl.defOf_mk KX G ?a22 ?l22 ?c22 ?k22 (fun _ _ _ _ _ _ us hl => match us, hl with | [_, _], _ => rfl),
        f__law_shuffled := Wl.defOf_mk KX G ?a23 ?l23 ?c23 ?k23 (fun _ _ _ _ _ _ us hl => match us, hl with | [_, _], _ => rfl),
        f__law_hands := Wl.defOf_mk KX G ?a24 ?l24 ?c24 ?k24 (fun _ _ _ _ _ _ us hl => match us, hl with | [_, _], _ => rfl),
        f__law_row := Wl.defOf_mk KX G ?a25 ?l25 ?c25 ?k25 (fun _ _ _ _ _ _ us hl => match us, hl with | [_, _], _ => rfl),
        f__law_bursts := Wl.defOf_mk KX G ?a26 ?l26 ?c26 ?k26 (fun _ _ _ _ _ _ us hl => match us, hl with | [_, _, _], _ => rfl),
        f__law_counted := Wl.defOf_mk KX G ?a27 ?l27 ?c27 ?k27 (fun _ _ _ _ _ _ us hl => match us, hl with | [_, _, _, _], _ => rfl),
        f_law := Wl.defOf_mk KX G ?a28 ?l28 ?c28 ?k28 (fun _ _ _ _ _ _ us hl => match us, hl with | [_], _ => rfl),
        mkf_Cells := ⟨?mkCells, ?kcCells⟩,
        na_Cells__views := Wl.noAttr_mk ?naCells_views,
        na_Cells__cells := Wl.noAttr_mk ?naCells_cells,
        na_Cells__next := Wl.noAttr_mk ?naCells_next,
        na_Cells__found := Wl.noAttr_mk ?naCells_found,
        na_Cells__writing := Wl.noAttr_mk ?naCells_writing,
        na_Cells__done := Wl.noAttr_mk ?naCells_done,
        na_Cells_row := Wl.noAttr_mk ?naCellsrow,
        na_Cells_rounds := Wl.noAttr_mk ?naCellsrounds,
        na_Cells_many := Wl.noAttr_mk ?naCellsmany,
        n_len := PySem.W.mg_none_of KX G ?nlen,
        n_isinstance := PySem.W.mg_none_of KX G ?nisinstance,
        n_abs := PySem.W.mg_none_of KX G ?nabs,
        n_int := PySem.W.mg_none_of KX G ?nint,
        n_bool := PySem.W.mg_none_of KX G ?nbool,
        n_list := PySem.W.mg_none_of KX G ?nlist,
        n_tuple := PySem.W.mg_none_of KX G ?ntuple,
        n_sorted := PySem.W.mg_none_of KX G ?nsorted,
        n_range := PySem.W.mg_none_of KX G ?nrange,
        n_zip := PySem.W.mg_none_of KX G ?nzip,
        n_ValueError := PySem.W.mg_none_of KX G ?nValueError,
        g_MOST_HANDS := ⟨_, PySem.W.mg_of KX G ?zMOST_HANDS, ?rMOST_HANDS⟩,
        g_MOST_VALUE := ⟨_, PySem.W.mg_of KX G ?zMOST_VALUE, ?rMOST_VALUE⟩,
        g_MOST_ROUNDS := ⟨_, PySem.W.mg_of KX G ?zMOST_ROUNDS, ?rMOST_ROUNDS⟩ }
    (case gCells => k_is)
    (case pgCells => k_is)
    (case hdCells => k_is)
    (case poCells => k_is)
    (case saCells => k_is)
    (case a1 => k_is)
    (case l1 => k_is)
    (case c1 => k_is)
    (case k1 => k_is)
    (case a2 => k_is)
    (case l2 => k_is)
    (case c2 => k_is)
    (case k2 => k_is)
    (case a3 => k_is)
    (case l3 => k_is)
    (case c3 => k_is)
    (case k3 => k_is)
    (case a4 => k_is)
    (case l4 => k_is)
    (case c4 => k_is)
    (case k4 => k_is)
    (case a5 => k_is)
    (case l5 => k_is)
    (case c5 => k_is)
    (case k5 => k_is)
    (case a6 => k_is)
    (case l6 => k_is)
    (case c6 => k_is)
    (case k6 => k_is)
    (case a7 => k_is)
    (case l7 => k_is)
    (case c7 => k_is)
    (case k7 => k_is)
    (case a8 => k_is)
    (case l8 => k_is)
    (case c8 => k_is)
    (case k8 => k_is)
    (case a9 => k_is)
    (case l9 => k_is)
    (case c9 => k_is)
    (case k9 => k_is)
    (case a10 => k_is)
    (case l10 => k_is)
    (case c10 => k_is)
    (case k10 => k_is)
    (case a11 => k_is)
    (case i11 => k_is)
    (case l11 => k_is)
    (case c11 => k_is)
    (case k11 => k_is)
    (case a12 => k_is)
    (case i12 => k_is)
    (case l12 => k_is)
    (case c12 => k_is)
    (case k12 => k_is)
    (case a13 => k_is)
    (case i13 => k_is)
    (case l13 => k_is)
    (case c13 => k_is)
    (case k13 => k_is)
    (case a14 => k_is)
    (case i14 => k_is)
    (case l14 => k_is)
    (case c14 => k_is)
    (case k14 => k_is)
    (case a15 => k_is)
    (case i15 => k_is)
    (case l15 => k_is)
    (case c15 => k_is)
    (case k15 => k_is)
    (case a16 => k_is)
    (case i16 => k_is)
    (case l16 => k_is)
    (case c16 => k_is)
    (case k16 => k_is)
    (case a17 => k_is)
    (case i17 => k_is)
    (case l17 => k_is)
    (case c17 => k_is)
    (case k17 => k_is)
    (case a18 => k_is)
    (case i18 => k_is)
    (case l18 => k_is)
    (case c18 => k_is)
    (case k18 => k_is)
    (case a19 => k_is)
    (case l19 => k_is)
    (case c19 => k_is)
    (case k19 => k_is)
    (case a20 => k_is)
    (case l20 => k_is)
    (case c20 => k_is)
    (case k20 => k_is)
    (case a21 => k_is)
    (case l21 => k_is)
    (case c21 => k_is)
    (case k21 => k_is)
    (case a22 => k_is)
    (case l22 => k_is)
    (case c22 => k_is)
    (case k22 => k_is)
    (case a23 => k_is)
    (case l23 => k_is)
    (case c23 => k_is)
    (case k23 => k_is)
    (case a24 => k_is)
    (case l24 => k_is)
    (case c24 => k_is)
    (case k24 => k_is)
    (case a25 => k_is)
    (case l25 => k_is)
    (case c25 => k_is)
    (case k25 => k_is)
    (case a26 => k_is)
    (case l26 => k_is)
    (case c26 => k_is)
    (case k26 => k_is)
    (case a27 => k_is)
    (case l27 => k_is)
    (case c27 => k_is)
    (case k27 => k_is)
    (case a28 => k_is)
    (case l28 => k_is)
    (case c28 => k_is)
    (case k28 => k_is)
    (case mkCells => k_is)
    (case kcCells => k_is)
    (case naCells_views => k_is)
    (case naCells_cells => k_is)
    (case naCells_next => k_is)
    (case naCells_found => k_is)
    (case naCells_writing => k_is)
    (case naCells_done => k_is)
    (case naCellsrow => k_is)
    (case naCellsrounds => k_is)
    (case naCellsmany => k_is)
    (case nlen => k_is)
    (case nisinstance => k_is)
    (case nabs => k_is)
    (case nint => k_is)
    (case nbool => k_is)
    (case nlist => k_is)
    (case ntuple => k_is)
    (case nsorted => k_is)
    (case nrange => k_is)
    (case nzip => k_is)
    (case nValueError => k_is)
    (case zMOST_HANDS => k_is)
    (case rMOST_HANDS => exact ⟨_, rfl⟩)
    (case zMOST_VALUE => k_is)
    (case rMOST_VALUE => exact ⟨_, rfl⟩)
    (case zMOST_ROUNDS => k_is)
    (case rMOST_ROUNDS => exact ⟨_, rfl⟩)

