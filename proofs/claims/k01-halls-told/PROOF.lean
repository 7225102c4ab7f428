import PyProof.Rows.All
import Wide.All
import OpenK.AllK
import Wide.FinOn
import HandS.ForMost
import HandS.Exc
import HandS.Strs
import HandS.TupAny
import HandS.TupMul
import HandS.Conv
import HandS.Lambda
import HandS.IsInst
import HandS.ExcOwn
import HandS.WideBits
import KE.GoesMore
import HandS.Walk
import HandS.WordsExc
import HandS.ExcInit
import HandS.ExcIs
import HandS.HotCalls
import HandS.TryMany
import HandS.MakeKwOnly
import HandS.SetFor
import HandS.Style
import HandS.Ends
import KE.KNest
import HandS.DictComp
import HandS.SortInts
import KE.LtData
import KE.KDictPairs
import KE.DataMinMax
import HandS.ClsMeth
import KE.KExcIs
import HandS.Hot
import HandS.ExcField
import HandS.Comp
import HandS.RaiseMore
import HandS.FStr
import HandS.Text
import KE.KCallOwn
import HandS.TupLe
import KE.KRevSl
import PySem.Challenge.RW_waitseats_k01_halls_told
set_option Elab.async false
set_option linter.all false
set_option maxRecDepth 100000
set_option maxHeartbeats 2000000
/-! New tuples of which it is known that they have no dict of their own. -/
namespace DLt
open PySem PySem.Spec PyProof.Rows L2
/-- a new tuple of the items, whatever its address -/
def NewT (vs : List V) (H : Hp) (Q : VK) : Prop := ∀ (ob : Obj) (a : Addr), ob.dict = none → H a = none → Q (.ref a) (upd H a (.frz ob (.tup vs)))
section
variable {X : Cx} {pins : List (Addr × Obj)} {σ : L2.St} {H : Hp} {s : Shared} {vs : List V} {us : List Value} {Q : VK}
theorem made (J : Inv X pins σ H s) (rv : Vals vs us) (sz : vs.length ≤ sizeLine) (nt : NewT vs H Q) : EP X pins σ Q (.ref s.heap.objs.size) { s with heap := s.heap.push { cls := .type "tuple", data := .seq us.toArray } } := by
  have none' : H s.heap.objs.size = none := J.hok.fresh (Nat.le_refl _)
  refine ⟨V.ref s.heap.objs.size, upd H s.heap.objs.size (.frz { cls := .type "tuple", data := .seq us.toArray } (.tup vs)), ?_, rfl, nt _ _ rfl none'⟩
  exact J.laid (t' := s.toks) (fun c oc ec => Heap.get?_push_of_some _ ec) (Nat.le_refl _) ⟨Heap.get?_push_size _ rfl, sz, us, rv, IsTup.new _ _⟩

/-- (a, b, ..) -/
def fTup (t : TA) : TE := fun σ H Q => t σ H fun vs H1 => vs.length ≤ sizeLine ∧ NewT vs H1 Q
theorem pf_tup {t : TA} {es : List Expr} {k} {pos : Pos} (pa : PA X es t) : PE X (.Tuple es k pos) (fTup t) := ⟨fun pins s σ H Q J hq =>
  wpAny_Tuple_spliced (thn (pa.run pos pins s σ H _ J hq) fun us s1 ⟨vs, H1, J1, rv, sz, nt⟩ => ⟨rv.length ▸ sz, made J1 rv sz nt⟩)⟩

/-- t + u -/
def fCat (K : PySem.W.Frag) : R2 := fun x y H Q => ∃ a b vs ws, x = .ref a ∧ y = .ref b ∧ SqT K H a vs ∧ SqT K H b ws ∧ vs.length + ws.length ≤ sizeLine ∧
  (vs = [] → Q (.ref b) H) ∧ (ws = [] → Q (.ref a) H) ∧ NewT (vs ++ ws) H Q
theorem op_catF : OpR X (binaryOp .Add) (fCat X.K) := by
  rintro pins s σ H x y v u Q J rx ry ⟨a, b, vs, ws, ex, ey, ta, tb, sz, ifl, ifr, nt⟩
  subst ex; subst ey
  cases rx; cases ry
  obtain ⟨us, r1, t1, _⟩ := J.tuple ta
  obtain ⟨us', r2, t2, _⟩ := J.tuple tb
  by_cases e1 : vs = []
  · subst e1
    cases r1
    exact cat_tup0 t1 t2 ⟨.ref b, H, J, rfl, ifl rfl⟩
  · have n1 : us ≠ [] := fun z => e1 (r1.nil_iff.mp z)
    refine HT.cat_tup t1 t2 n1 (fun z => ⟨.ref a, H, J, rfl, ifr (r2.nil_iff.mp z)⟩) (fun _ => made J (r1.append r2) (by rw [List.length_append]; exact sz) nt) ?_
    rw [← r1.length, ← r2.length]; exact sz

/-- t * k -/
def fRep (K : PySem.W.Frag) : R2 := fun x y H Q => ∃ a k vs, x = .ref a ∧ y = .int k ∧ SqT K H a vs ∧ vs ≠ [] ∧ 0 ≤ k ∧ k ≤ 1000 ∧ vs.length ≤ 1000 ∧ (k = 1 → Q (.ref a) H) ∧ NewT (List.replicate k.toNat vs).flatten H Q
theorem tuple_mul1 (l : Addr) (its : Array Value) (n : Nat) (dd : Option Addr) (sl : Array (Option Value)) (u : Tok) :
    Meets (Builtin.«tuple.__mul__» ⟨[.ref l, .int 1 u], []⟩) (fun _ R s => s.heap.get? l = some { cls := .type "tuple", dict := dd, data := .seq its n, slots := sl } ∧ R (.ok (.ret (Value.ref l))) s) :=
  .of_wp fun prog w A R s h => by
    obtain ⟨hp, g, d, tk, os⟩ := s
    obtain ⟨hl, h⟩ := h
    have f1 := AutoSeq1.idx_int
    wp_walk using wpAny_loadPart' hl
    exact ⟨_, rfl, h⟩
theorem tuple_mul0 (l : Addr) (its : Array Value) (n : Nat) (dd : Option Addr) (sl : Array (Option Value)) (u : Tok) (ne : its.isEmpty = false) :
    Meets (Builtin.«tuple.__mul__» ⟨[.ref l, .int 0 u], []⟩) (fun _ R s => s.heap.get? l = some { cls := .type "tuple", dict := dd, data := .seq its n, slots := sl } ∧
      R (.ok (.ret (Value.ref s.heap.objs.size))) { s with heap := s.heap.push { cls := Value.type "tuple", data := Data.seq #[] }, toks := s.toks }) :=
  .of_wp fun prog w A R s h => by
    obtain ⟨hp, g, d, tk, os⟩ := s
    obtain ⟨hl, h⟩ := h
    have f1 := AutoSeq1.idx_int
    have c1 : (its.isEmpty || (0 : Int) == 1) = false := by rw [ne]; rfl
    wp_walk using wpAny_loadPart' hl
    repeat (first
      | (refine wpAny_ite_false (decide_eq_false (by rw [c1]; exact Bool.false_ne_true)) ?_; wp_walk using wpAny_loadPart' hl))
    exact ⟨_, rfl, h⟩
theorem rep_flat : ∀ (k : Nat) (us : List Value), (List.foldl (fun x1 x2 => x1 ++ x2) #[] (List.replicate k us.toArray)) = (List.replicate k us).flatten.toArray := fun k us => size_rep us k
theorem rep_vals {vs : List V} {us : List Value} (rv : Vals vs us) : ∀ k : Nat, Vals (List.replicate k vs).flatten (List.replicate k us).flatten
  | 0 => .nil
  | k + 1 => by
    rw [List.replicate_succ, List.replicate_succ, List.flatten_cons, List.flatten_cons]
    exact rv.append (rep_vals rv k)
theorem rep_len {α : Type} (vs : List α) : ∀ k : Nat, (List.replicate k vs).flatten.length = k * vs.length
  | 0 => by simp
  | k + 1 => by rw [List.replicate_succ, List.flatten_cons, List.length_append, rep_len vs k, Nat.add_mul, Nat.one_mul, Nat.add_comm]
theorem op_repF : OpR X (binaryOp .Mult) (fRep X.K) := by
  rintro pins s σ H x y v u Q J rx ry ⟨a, k, vs, ex, ey, ta, nn, k1, k2, sz, same, nt⟩
  subst ex; subst ey
  cases rx
  obtain ⟨tk, eu⟩ := ry
  subst eu
  obtain ⟨us, rv, ⟨⟨cl, dd, da, sl⟩, look, ec, n, ed⟩, _⟩ := J.tuple ta
  simp only at ec ed
  subst ec; subst ed
  have ln : us.length = vs.length := rv.length.symm
  have un : us ≠ [] := fun z => nn (rv.nil_iff.mp z)
  have kz : k.toNat * vs.length ≤ 1000 * 1000 := Nat.mul_le_mul (by omega) sz
  have fl : (List.replicate k.toNat us).flatten.length ≤ sizeLine := by rw [rep_len, ln, sizeLine_eq]; omega
  refine wpAny_binaryOp_repeat_ref (T := "tuple") (U := "int") (by decide) ⟨_, look, rfl⟩ (fun st => typeIs_int st k tk) noFill_tuple_mul F.fills_int_mul F.slot_int_rmul repeat_tuple F.slot_int_index.lookup
    (call_meets F.slot_int_rmul (typeIs_int s k tk) F.entry_int_rmul (F.args_int_rmul_2 _ _) (int_rmul_tuple k tk a us.toArray n dd sl)
      ⟨look, rfl, ⟨_, look, rfl⟩, ?_⟩)
  have ne : us.toArray.isEmpty = false := by
    cases us with
    | nil => exact absurd rfl un
    | cons _ _ => rfl
  by_cases e0 : k = 0
  · subst e0
    refine call_meets F.slot_tuple_mul ⟨_, look, rfl⟩ F.entry_tuple_mul (F.args_tuple_mul_2 _ _) (tuple_mul0 a us.toArray n dd sl tk ne) ⟨look, ?_⟩
    exact made (vs := []) (us := []) J .nil (Nat.zero_le _) nt
  by_cases e1 : k = 1
  · subst e1
    exact call_meets F.slot_tuple_mul ⟨_, look, rfl⟩ F.entry_tuple_mul (F.args_tuple_mul_2 _ _) (tuple_mul1 a us.toArray n dd sl tk) ⟨look, .ref a, H, J, rfl, same rfl⟩
  · have sz0 : us.toArray.size = vs.length := by rw [List.size_toArray, ln]
    have pr : ((us.toArray.size : Nat) : Int) * k ≤ 1000000 := by
      rw [sz0]
      have : ((vs.length : Nat) : Int) * k ≤ 1000 * k := Int.mul_le_mul_of_nonneg_right (by omega) (by omega)
      omega
    have b0 : (decide (k < -(2 ^ 63)) || decide (k ≥ 2 ^ 63)) = false := by
      rw [decide_eq_false (by omega), decide_eq_false (by omega)] <;> rfl
    have b1 : (us.toArray.isEmpty || k == 1) = false := by
      rw [ne, Bool.false_or]; exact beq_eq_false_iff_ne.mpr e1
    have b2 : (decide (k ≤ 0) || us.toArray.isEmpty) = false := by
      rw [ne, Bool.or_false]; exact decide_eq_false (by omega)
    have b4 : Builtin.Tuple.tupleTooMany (((us.toArray.size : Nat) : Int) * k) = false := by
      unfold Builtin.Tuple.tupleTooMany; rw [sizeLine_eq]; exact decide_eq_false (by omega)
    refine call_meets F.slot_tuple_mul ⟨_, look, rfl⟩ F.entry_tuple_mul (F.args_tuple_mul_2 _ _) (tuple_mulW a us.toArray n dd sl k tk b0 b1 b2 (by omega) b4 (by rw [rep_flat, List.size_toArray]; exact fl)) ⟨look, ?_⟩
    rw [rep_flat]
    exact made J (rep_vals rv k.toNat) (by rw [rep_len, sizeLine_eq]; omega) nt

/-- t[a:b] -/
def fCut (K : PySem.W.Frag) : V → Option Int → Option Int → Hp → VK → Prop := fun x lo hi H Q => ∃ a vs, x = .ref a ∧ SqT K H a vs ∧
  (HT.sIx vs.length 0 lo = 0 ∧ HT.sIx vs.length vs.length hi = vs.length → Q (.ref a) H) ∧ NewT (cutV vs lo hi) H Q
theorem sl_tupF : SlR X (fCut X.K) := by
  rintro pins s σ H x v vl vu lo hi sl Q J rx hs pl pu ⟨a, vs, ex, ta, whole, nt⟩
  subst ex
  cases rx
  obtain ⟨us, rv, tp, sz⟩ := J.tuple ta
  have ln : us.toArray.size = vs.length := by rw [List.size_toArray]; exact rv.length.symm
  refine ⟨"tuple", _, PyProof.Rows.slot_tuple_getitem.lookup, tp.typeIs, ?_⟩
  by_cases all : HT.sIx vs.length 0 lo = 0 ∧ HT.sIx vs.length vs.length hi = vs.length
  · exact getItem_tuple_whole tp hs pl pu (by rw [ln]; exact all) ⟨.ref a, H, J, rfl, whole all⟩
  · refine HT.getItem_tuple_cut tp hs pl pu (by rw [ln]; exact all) ?_ (by rw [ln]; exact sz)
    rw [ln]
    exact made J ((rv.drop _).take _) (Nat.le_trans (cutV_length vs lo hi) sz) nt

/-- tuple(x) -/
def fOf (K : PySem.W.Frag) : List V → Hp → VK → Prop := fun xs H Q => ∃ p ys, xs = [.ref p] ∧ ((SqL K H p ys ∧ NewT ys H Q) ∨ (SqT K H p ys ∧ Q (.ref p) H))
theorem call_tupF : CallR X (.type "tuple") (fOf X.K) := by
  rintro pins s σ H xs us Q J r ⟨p, ys, ex, h⟩
  subst ex
  obtain ⟨u, eu, ru⟩ := vals1 r
  subst eu
  cases ru
  rcases h with ⟨sq, nt⟩ | ⟨sq, q⟩
  · obtain ⟨us, rv, pl, sz⟩ := J.list sq
    refine call_tuple_list pl.isList (fun h' hk => ?_) (by rw [List.size_toArray, ← rv.length]; exact sz)
    exact made (s := { s with heap := h' }) (J.kept (t' := s.toks) hk) rv sz nt
  · obtain ⟨us, _, t1, _⟩ := J.tuple sq
    exact call_tuple_same (items := us.toArray) t1 ⟨.ref p, H, J, rfl, q⟩

/-- tuple(range(..)) -/
def fRg (te : L2.St → Hp → (Int → Int → Hp → Prop) → Prop) : TE := fun σ H Q => te σ H fun lo hi H1 => RgOk lo hi ∧ NewT (rgV lo hi) H1 Q
theorem pf_tupRg {e : Expr} {te : L2.St → Hp → (Int → Int → Hp → Prop) → Prop} {p pos : Pos} (calm : X.calm = true) (hg : Gl X "tuple") (hm : X.mg "tuple" = none) (he : PRg X e te) (na : starEach [e] X.env = (false, eval e X.env) :: starEach [] X.env := by rfl) :
    PE X (.Call (.Name "tuple" p) [e] [] pos) (fRg te) := by
  refine ⟨fun pins s σ H Q J h => ?_⟩
  refine Call_ (ld_blt J hg hm boot_tuple (PyProof.Rows.callWith_type1 (PyProof.Rows.args_cons (thn (he pins s σ H _ J h) fun x s1 ⟨r, lo, hi, t, u, v, H1, ex, ir, J1, ⟨b1, b2, b3, b4, b5⟩, nt⟩ => PyProof.Rows.args_nil ?_) na) na))
  subst ex
  refine call_tuple_range (n := (hi - lo).toNat) (J1.ok.hd calm) ir (small_one b1 b2 b3 b4) (rangeSize_nat lo hi) b5 fun h' tk acc hk hi' => ?_
  have J2 : Inv X pins σ H1 { s1 with heap := h', toks := tk } := J1.kept hk
  have z := made J2 (vals_rg hi') (by rw [rgV_length, sizeLine_eq]; omega) nt
  rw [Array.toArray_toList] at z
  exact z

/-! ### t.index(x), x and the items of plain kinds -/
def fIdx (to : TE) (t : TA) : TE := fun σ H Q => to σ H fun x H1 => ∃ p ob vs0, x = .ref p ∧ H1 p = some (.frz ob (.tup vs0)) ∧ ob.dict = none ∧ t σ H1 fun xs H2 => ∃ y j w vs, xs = [y] ∧ Rd H2 p (.tup vs) ∧ flatV y = true ∧ vs.all flatV = true ∧
  vs[j]? = some w ∧ eqV w y = true ∧ (∀ m z, m < j → vs[m]? = some z → eqV z y = false) ∧ Q (.int (j : Nat)) H2
theorem at_eqU {y : V} {f : flatV y = true} : ∀ {vs : List V} {us : List Value}, Vals vs us → vs.all flatV = true → ∀ (m : Nat) (hm : m < us.length), ∃ z, vs[m]? = some z ∧ eqU y us[m] = eqV z y
  | _, _, .nil, _ => fun m hm => absurd hm (Nat.not_lt_zero _)
  | v :: _, _, .cons r t, fl => fun m hm => by
    rw [List.all_cons, Bool.and_eq_true] at fl
    cases m with
    | zero => exact ⟨v, rfl, eqU_of r fl.1⟩
    | succ m =>
      obtain ⟨z, hz, e⟩ := at_eqU (f := f) t fl.2 m (Nat.lt_of_succ_lt_succ hm)
      exact ⟨z, hz, e⟩
theorem pf_index {o e : Expr} {to : TE} {t : TA} {apos cpos : Pos} (ho : PE X o to) (ha : PA X [e] t)
    (hbase : attributeBase o "index" X.env (eval o X.env) = eval o X.env := by rfl)
    (hfew : ((backTo cpos (starEach [e] X.env)).all (fun x => !x.1) && (backToKw cpos (keywordEach [] X.env)).all (fun x => x.1.isSome)
      && decide ([e].length + ([] : List Keyword).length + (if ([] : List Keyword).isEmpty then 0 else 1) < 30)) = true := by rfl)
    (hline : (apos.endLine == cpos.line) = true := by rfl) (hs : starEach [e] X.env = (false, eval e X.env) :: starEach [] X.env := by rfl) (hplain : (backTo cpos (starEach [] X.env)).any (·.1) = false := by rfl) :
    PE X (.Call (.Attribute o "index" apos) [e] [] cpos) (fIdx to t) := by
  refine ⟨fun pins s σ H Q J h => ?_⟩
  refine wpAny_Call_method_late hbase hfew hline rfl (thn (ho.run pins s σ H _ J h) fun v s1 ⟨x, H1, J1, r1, p, ob, vs0, ex, at1, dn, q1⟩ => ?_)
  subst ex
  cases r1
  obtain ⟨look, tok⟩ := J1.hok p _ at1
  obtain ⟨_, _, _, ob', look', cl', _⟩ := id tok
  rw [look] at look'
  cases look'
  refine ⟨"tuple", "tuple.index", F.plainAttrs_tuple, F.slot_tuple_index, F.type_tuple_index, ⟨ob, look, cl'⟩, fun a ea => by cases ea; exact ⟨ob, look, dn⟩, ?_⟩
  have run := ha.run cpos pins s1 σ H1 _ J1 q1
  rw [hs] at run ⊢
  refine Calls.callWith_builtin (by show (false || (backTo cpos (starEach [] X.env)).any (·.1)) = false; rw [hplain] <;> rfl) (Calls.evalArgs_plain ?_)
  refine thn run fun us s2 ⟨xs, H2, J2, r2, y, j, w, vs, exs, rd2, fy, fvs, hj, hit, hno, q2⟩ => ?_
  subst exs
  obtain ⟨u, eu, ru⟩ := vals1 r2
  subst eu
  obtain ⟨us2, rv, ⟨⟨cl, dd, da, sl⟩, look2, ec, n, ed⟩, _⟩ := J2.tuple (.inl rd2)
  simp only at ec ed
  subst ec; subst ed
  have ln : vs.length = us2.length := rv.length
  have jl : j < us2.length := by rw [← ln]; exact (List.getElem?_eq_some_iff.mp hj).1
  refine call_meets F.slot_tuple_index ⟨_, look2, rfl⟩ F.entry_tuple_index (F.args_tuple_index_2 _ _) (TI.tuple_indexAt p us2.toArray n dd sl u (eqU y) j (by rw [List.size_toArray]; exact jl) ?_ ?_)
    ⟨look2, fun z hz => mem_eqAt ru fy rv fvs z (by simpa using hz), ⟨.int (j : Nat), H2, J2.tok _, ⟨_, rfl⟩, q2⟩⟩
  · obtain ⟨z, hz, e⟩ := at_eqU (f := fy) rv fvs j jl
    rw [hj] at hz
    cases hz
    simpa [hit] using e
  · intro m hm mj
    obtain ⟨z, hz, e⟩ := at_eqU (f := fy) rv fvs m (by simpa using hm)
    have := hno m z mj hz
    simpa [this] using e
end
end DLt

set_option Elab.async false
set_option linter.all false
set_option maxRecDepth 100000
set_option maxHeartbeats 2000000
/-! The data layer: values without addresses, slots, a monad of wishes over them, its lifting to the hand layer's readings. -/
namespace DL
open PySem PySem.Spec PyProof.Rows L2

/-- what stays through the whole law: the class Hall, the module's names, the written part, the world, the program -/
structure Gx where
  C : Addr
  mg : Str → Option Value
  K : PySem.W.Frag
  w : World
  P : Program
/-- the tables of code objects of the defs that make lambdas, with the lambdas' names -/
class Tbs where
  T : List (Addr × Str)

inductive D where
  | non | bl (b : Bool) | int (i : Int) | str (s : Str) | byt (b : Array UInt8)
  | tup (xs : List D) | pr (xs : List D) | lst (xs : List D) | hall (g s : Int) | scr (ns : List Int)
  | emp | exn (c f : Str) (ys : List D)
  deriving Inhabited

/-- at a: an exception that is let alone (its class, its dict, its context None) -/
def ExAt (H : Hp) (a : Addr) (cls : Value) (d : Option Addr) : Prop := ∃ (oe : Obj) (vs : Array Value), H a = some (.frz oe (.ext fun h => h.get? a = some oe)) ∧ oe.cls = cls ∧ oe.dict = d ∧ oe.data = .fields vs ∧ vs[2]? = some .none
/-- what its dict says -/
def FldR (F : Addr → Prop) (H : Hp) (f : Str) (d : Option Addr) (vs : List V) : Prop := (d = none ∧ vs = []) ∨ ∃ dd y, d = some dd ∧ vs = [y] ∧ F dd ∧ H dd = some (.xd [(f, y)])
/-- a tuple that stays, without a dict of its own -/
def TupAt (F : Addr → Prop) (H : Hp) (a : Addr) (vs : List V) : Prop := F a ∧ ∃ ob : Obj, H a = some (.frz ob (.tup vs)) ∧ ob.dict = none
theorem TupAt.rd {F : Addr → Prop} {H : Hp} {a : Addr} {vs : List V} (h : TupAt F H a vs) : Rd H a (.tup vs) := let ⟨_, ob, e, _⟩ := h; .inr ⟨ob, e⟩
mutual
/-- the value v, over the heap H, is the datum; F: the addresses that nobody writes any more -/
def Rp (G : Gx) (F : Addr → Prop) (H : Hp) : D → V → Prop
  | .non, v => v = .non
  | .bl b, v => v = .bl b
  | .int i, v => v = .int i
  | .str s, v => v = .str s
  | .byt b, v => v = .byt b
  | .tup ds, v => ∃ a vs, v = .ref a ∧ TupAt F H a vs ∧ RpL G F H ds vs
  | .pr ds, v => ∃ a vs, v = .ref a ∧ Rd H a (.tup vs) ∧ RpL G F H ds vs
  | .lst ds, v => ∃ a vs, v = .ref a ∧ F a ∧ H a = some (.lst vs) ∧ RpL G F H ds vs
  | .hall g s, v => ∃ a dx, v = .ref a ∧ F a ∧ H a = some (.ins G.C dx [("guests", .int g), ("spare", .int s)])
  | .scr ns, v => ∃ a, v = .ref a ∧ ((F a ∧ Rd H a (.lst (ns.map V.int))) ∨ ∀ H', SqL G.K H' a (ns.map V.int))
  | .emp, v => ∃ a, v = .ref a ∧ F a ∧ H a = some (.dK [])
  | .exn c f ys, v => ∃ a cls d vs, v = .ref a ∧ F a ∧ ExAt H a cls d ∧ G.mg c = some cls ∧ RpL G F H ys vs ∧ FldR F H f d vs
def RpL (G : Gx) (F : Addr → Prop) (H : Hp) : List D → List V → Prop
  | [], vs => vs = []
  | d :: ds, vs => ∃ v r, vs = v :: r ∧ Rp G F H d v ∧ RpL G F H ds r
end

/-- the tables: each code object that they tell is known -/
def TabF (T : List (Addr × Str)) (F : Addr → Prop) (H : Hp) : Prop := LamX.Tabs T H
theorem TabF.ext {T : List (Addr × Str)} {F F' : Addr → Prop} {H H' : Hp} (t : TabF T F H) (hF : ∀ a, F a → F' a) (e : ∀ b o, H b = some o → H' b = some o) : TabF T F' H' := LamX.Tabs.ext t e
theorem TabF.own {T : List (Addr × Str)} {F : Addr → Prop} {H : Hp} {a : Addr} {u : HO} (t : TabF T F H) (nt : ∀ ps, H a ≠ some (.tbl ps)) (nc : ∀ q, H a ≠ some (LamX.CodeO a q)) : TabF T F (upd H a u) := fun p hp =>
  let ⟨ps, h1, h2, h3⟩ := t p hp
  ⟨ps, by rw [upd_ne (show p.1 ≠ a from fun z => nt ps (by rw [← z]; exact h1))]; exact h1, h2, fun pos cv q => let ⟨c, e1, e2⟩ := h3 pos cv q; ⟨c, e1, by rw [upd_ne (show c ≠ a from fun z => nc p.2 (by rw [← z]; exact e2))]; exact e2⟩⟩
/-- tracked, no table -/
def Nt (H : Hp) (a : Addr) : Prop := H a ≠ none ∧ ∀ ps, H a ≠ some (.tbl ps)
theorem Nt.of {H : Hp} {a : Addr} {o : HO} (e : H a = some o) (nt : ∀ ps, o ≠ .tbl ps := by intro _ z; cases z) : Nt H a := ⟨by rw [e]; exact (fun z => nomatch z), fun ps z => nt ps (Option.some.inj (e.symm.trans z))⟩
theorem Nt.keep {H H' : Hp} {a : Addr} (kp : ∀ b o, H b = some o → H' b = some o) (n : Nt H a) : Nt H' a := by
  cases e : H a with
  | none => exact absurd e n.1
  | some o => exact Nt.of (kp a o e) fun ps z => n.2 ps (e.trans (congrArg some z))
variable [Tbs]
/-- what is kept from (F, H) to (F', H'): B are the addresses that this code does not own -/
structure Stp (B F : Addr → Prop) (H : Hp) (F' : Addr → Prop) (H' : Hp) : Prop where
  fm : ∀ a, F a → F' a
  fn : ∀ a, F' a → F a ∨ ¬ B a
  hk0 : ∀ a o, B a ∨ F a → H a = some o → (∀ ps, o ≠ .tbl ps) → H' a = some o
  ht : ∀ a vs, Rd H a (.tup vs) → Rd H' a (.tup vs)
  tb : TabF Tbs.T F H → TabF Tbs.T F' H'
theorem Stp.hs {B F F' : Addr → Prop} {H H' : Hp} (s : Stp B F H F' H') (a : Addr) (h : B a ∨ F a) (n : Nt H a) : Nt H' a := by
  cases e : H a with
  | none => exact absurd e n.1
  | some o => exact Nt.of (s.hk0 a o h e fun ps z => n.2 ps (e.trans (congrArg some z))) fun ps z => n.2 ps (e.trans (congrArg some z))
theorem Stp.hk {B F F' : Addr → Prop} {H H' : Hp} (s : Stp B F H F' H') (a : Addr) (o : HO) (h : B a ∨ F a) (e : H a = some o) (nt : ∀ ps, o ≠ .tbl ps := by intro _ z; cases z) : H' a = some o := s.hk0 a o h e nt
theorem Stp.refl {B F : Addr → Prop} {H : Hp} : Stp B F H F H := ⟨fun _ h => h, fun _ h => .inl h, fun _ _ _ h _ => h, fun _ _ h => h, fun t => t⟩
theorem Stp.trans {B F F1 F2 : Addr → Prop} {H H1 H2 : Hp} (a : Stp B F H F1 H1) (b : Stp B F1 H1 F2 H2) : Stp B F H F2 H2 where
  fm := fun x h => b.fm x (a.fm x h)
  fn := fun x h => (b.fn x h).elim (fun q => a.fn x q) .inr
  hk0 := fun x o h e n => b.hk0 x o (h.imp id (a.fm x)) (a.hk0 x o h e n) n
  ht := fun x vs h => b.ht x vs (a.ht x vs h)
  tb := fun t => b.tb (a.tb t)

theorem ExAt.mono {B F F' : Addr → Prop} {H H' : Hp} (s : Stp B F H F' H') {a : Addr} {cls : Value} {d : Option Addr} (h : ExAt H a cls d) (hF : F a) : ExAt H' a cls d :=
  let ⟨oe, vs, e, r⟩ := h; ⟨oe, vs, s.hk a _ (.inr hF) e, r⟩
theorem FldR.mono {B F F' : Addr → Prop} {H H' : Hp} (s : Stp B F H F' H') {f : Str} {d : Option Addr} {vs : List V} (h : FldR F H f d vs) : FldR F' H' f d vs :=
  h.imp id fun ⟨dd, y, e1, e2, hF, e3⟩ => ⟨dd, y, e1, e2, s.fm dd hF, s.hk dd _ (.inr hF) e3⟩
mutual
theorem Rp.mono {G : Gx} {B F F' : Addr → Prop} {H H' : Hp} (s : Stp B F H F' H') : ∀ (d : D) (v : V), Rp G F H d v → Rp G F' H' d v
  | .non, _, h => h
  | .bl _, _, h => h
  | .int _, _, h => h
  | .str _, _, h => h
  | .byt _, _, h => h
  | .tup ds, _, ⟨a, vs, e, ⟨hF, ob, h1, dn⟩, h2⟩ => ⟨a, vs, e, ⟨s.fm a hF, ob, s.hk a _ (.inr hF) h1, dn⟩, RpL.mono s ds vs h2⟩
  | .pr ds, _, ⟨a, vs, e, h1, h2⟩ => ⟨a, vs, e, s.ht a vs h1, RpL.mono s ds vs h2⟩
  | .lst ds, _, ⟨a, vs, e, hF, h1, h2⟩ => ⟨a, vs, e, s.fm a hF, s.hk a _ (.inr hF) h1, RpL.mono s ds vs h2⟩
  | .hall _ _, _, ⟨a, dx, e, hF, h1⟩ => ⟨a, dx, e, s.fm a hF, s.hk a _ (.inr hF) h1⟩
  | .scr _, _, ⟨a, e, h⟩ => ⟨a, e, h.imp (fun ⟨hF, h1⟩ => ⟨s.fm a hF, h1.imp (fun z => s.hk a _ (.inr hF) z) fun ⟨o, q⟩ => ⟨o, s.hk a _ (.inr hF) q⟩⟩) id⟩
  | .emp, _, ⟨a, e, hF, h1⟩ => ⟨a, e, s.fm a hF, s.hk a _ (.inr hF) h1⟩
  | .exn _ _ ys, _, ⟨a, cls, d, vs, e, hF, h1, h2, h3, h4⟩ => ⟨a, cls, d, vs, e, s.fm a hF, h1.mono s hF, h2, RpL.mono s ys vs h3, h4.mono s⟩
theorem RpL.mono {G : Gx} {B F F' : Addr → Prop} {H H' : Hp} (s : Stp B F H F' H') : ∀ (ds : List D) (vs : List V), RpL G F H ds vs → RpL G F' H' ds vs
  | [], _, h => h
  | d :: ds, _, ⟨v, r, e, h1, h2⟩ => ⟨v, r, e, Rp.mono s d v h1, RpL.mono s ds r h2⟩
end
end DL

set_option Elab.async false
set_option linter.all false
set_option maxRecDepth 100000
set_option maxHeartbeats 2000000
namespace DL
open PySem PySem.Spec PyProof.Rows L2
variable [Tbs]

/-- what an owned object holds -/
inductive O where
  | lst (ds : List D) | set (S : Int → Bool) (n : Nat) | dic (kvs : List (Key × D)) | ins (C : Addr) (fs : List (Str × D))
/-- a slot: unknown, a datum, an owned object, an owned object handed in (at the letter a) -/
inductive Slot where
  | no | im (d : D) | ow (o : O) | io (a : Addr) (o : O)
def Slot.own : Slot → Bool
  | .ow _ => true
  | .io _ _ => true
  | _ => false

def KvR (G : Gx) (F : Addr → Prop) (H : Hp) : List (Key × D) → List (Key × V) → Prop
  | [], l => l = []
  | (k, d) :: r, l => ∃ v l', l = (k, v) :: l' ∧ Rp G F H d v ∧ KvR G F H r l'
def FsR (G : Gx) (F : Addr → Prop) (H : Hp) : List (Str × D) → List (Str × V) → Prop
  | [], l => l = []
  | (k, d) :: r, l => ∃ v l', l = (k, v) :: l' ∧ Rp G F H d v ∧ FsR G F H r l'
def OwAt (G : Gx) (F : Addr → Prop) (H : Hp) (a : Addr) : O → Prop
  | .lst ds => ∃ vs, H a = some (.lst vs) ∧ RpL G F H ds vs
  | .set S n => H a = some (SetO G.w a S n)
  | .dic kvs => ∃ l, H a = some (.dK l) ∧ KvR G F H kvs l
  | .ins C fs => ∃ dx l, H a = some (.ins C dx l) ∧ FsR G F H fs l
def SlotR (G : Gx) (B F : Addr → Prop) (H : Hp) (x : Option (Option V)) : Slot → Prop
  | .no => True
  | .im d => ∃ v, x = some (some v) ∧ Rp G F H d v
  | .ow o => ∃ a, x = some (some (.ref a)) ∧ ¬ F a ∧ ¬ B a ∧ OwAt G F H a o
  | .io a o => x = some (some (.ref a)) ∧ ¬ F a ∧ ¬ B a ∧ OwAt G F H a o
def OwnAt (env : List Slot) (σ : L2.St) (i : Nat) (a : Addr) : Prop := (∃ s, env[i]? = some s ∧ s.own = true) ∧ σ[i]? = some (some (.ref a))

structure Rel (G : Gx) (B F : Addr → Prop) (σ : L2.St) (env : List Slot) (H : Hp) : Prop where
  len : env.length = σ.length
  sl : ∀ (i : Nat) s, env[i]? = some s → SlotR G B F H σ[i]? s
  ap : ∀ i j a, OwnAt env σ i a → OwnAt env σ j a → i = j
  hB : ∀ a, B a → Nt H a
  hF : ∀ a, F a → Nt H a
  tb : TabF Tbs.T F H

/-- an exception: its class by name, its field -/
structure Exn where
  cls : Str
  fld : Option (Str × D)
def ExnR (G : Gx) (F : Addr → Prop) (H : Hp) (x : Exn) (cls : Value) (d : Option Addr) : Prop :=
  G.mg x.cls = some cls ∧ match x.fld with
    | none => d = none
    | some (f, y) => ∃ dd v, d = some dd ∧ F dd ∧ H dd = some (.xd [(f, v)]) ∧ Rp G F H y v

abbrev M (α : Type) := List Slot → (α → List Slot → Prop) → (Exn → List Slot → Prop) → Prop
def ret {α : Type} (a : α) : M α := fun env Q _ => Q a env
def bnd {α β : Type} (m : M α) (k : α → M β) : M β := fun env Q E => m env (fun a env' => k a env' Q E) E
def fail {α : Type} : M α := fun _ _ _ => False
def ask {α : Type} (p : Prop) (m : M α) : M α := fun env Q E => p ∧ m env Q E

/-- the state as the hand layer sees it, with what is wanted -/
def Pt {α β : Type} (G : Gx) (W : WX) (R : (Addr → Prop) → (Addr → Prop) → List Slot → L2.St → Hp → α → β → Prop) (σ : L2.St) (H : Hp) (Q : β → Hp → Prop) (m : M α) (B F : Addr → Prop) (env : List Slot) : Prop :=
  ∃ Qd Ed, Rel G B F σ env H ∧ m env Qd Ed ∧
    (∀ a env' b F' H', Qd a env' → Stp B F H F' H' → Rel G B F' σ env' H' → R B F' env' σ H' a b → Q b H') ∧
    (∀ x env' cls d F' H', Ed x env' → Stp B F H F' H' → Rel G B F' σ env' H' → ExnR G F' H' x cls d → W cls d σ H')
def Lift {α β : Type} (G : Gx) (W : WX) (R : (Addr → Prop) → (Addr → Prop) → List Slot → L2.St → Hp → α → β → Prop) (m : M α) : L2.St → Hp → (β → Hp → Prop) → Prop :=
  fun σ H Q => ∃ B F env, Pt G W R σ H Q m B F env

def RD (G : Gx) : (Addr → Prop) → (Addr → Prop) → List Slot → L2.St → Hp → D → V → Prop := fun _ F _ _ H d v => Rp G F H d v
def RDs (G : Gx) : (Addr → Prop) → (Addr → Prop) → List Slot → L2.St → Hp → List D → List V → Prop := fun _ F _ _ H d v => RpL G F H d v
def RB : (Addr → Prop) → (Addr → Prop) → List Slot → L2.St → Hp → Bool → Bool → Prop := fun _ _ _ _ _ a b => a = b
/-- a new owned object -/
def RO (G : Gx) : (Addr → Prop) → (Addr → Prop) → List Slot → L2.St → Hp → O → V → Prop := fun B F env σ H o v => ∃ a, v = .ref a ∧ ¬ F a ∧ ¬ B a ∧ OwAt G F H a o ∧ ∀ i, ¬ OwnAt env σ i a
abbrev tD (G : Gx) (W : WX) (m : M D) : TE := Lift G W (RD G) m
abbrev tBl (G : Gx) (W : WX) (m : M Bool) : TT := Lift G W RB m
abbrev tDs (G : Gx) (W : WX) (m : M (List D)) : TA := Lift G W (RDs G) m
abbrev tO (G : Gx) (W : WX) (m : M O) : TE := Lift G W (RO G) m

section
variable {G : Gx} {W : WX} {B F : Addr → Prop} {σ : L2.St} {H : Hp} {env : List Slot} {α β γ δ : Type}
variable {R : (Addr → Prop) → (Addr → Prop) → List Slot → L2.St → Hp → γ → δ → Prop} {Ra : (Addr → Prop) → (Addr → Prop) → List Slot → L2.St → Hp → α → β → Prop} {Q : δ → Hp → Prop}

theorem KvR.mono {F' : Addr → Prop} {H' : Hp} (s : Stp B F H F' H') : ∀ (l : List (Key × D)) (l' : List (Key × V)), KvR G F H l l' → KvR G F' H' l l'
  | [], _, h => h
  | (k, d) :: r, _, ⟨v, l', e, h1, h2⟩ => ⟨v, l', e, Rp.mono s d v h1, KvR.mono s r l' h2⟩

theorem FsR.mono {F' : Addr → Prop} {H' : Hp} (s : Stp B F H F' H') : ∀ (l : List (Str × D)) (l' : List (Str × V)), FsR G F H l l' → FsR G F' H' l l'
  | [], _, h => h
  | (k, d) :: r, _, ⟨v, l', e, h1, h2⟩ => ⟨v, l', e, Rp.mono s d v h1, FsR.mono s r l' h2⟩
/-- a stage: what was had ahead (as, xs) is still had -/
theorem Pt.bind {ma : M α} {k : α → M γ} {as : List D} {xs : List V} (h : Pt G W R σ H Q (bnd ma k) B F env) (hx : RpL G F H as xs) :
    Lift G W Ra ma σ H (fun y H' => ∃ F' env' b, Pt G W R σ H' Q (k b) B F' env' ∧ RpL G F' H' as xs ∧ Ra B F' env' σ H' b y) := by
  obtain ⟨Qd, Ed, rel, hm, hq, he⟩ := h
  refine ⟨B, F, env, fun a env' => k a env' Qd Ed, Ed, rel, hm, fun a env' b F' H' hk st rl hr => ?_, he⟩
  refine ⟨F', env', a, ⟨Qd, Ed, rl, hk, fun a2 env2 b2 F2 H2 q2 st2 rl2 r2 => hq a2 env2 b2 F2 H2 q2 (st.trans st2) rl2 r2, fun x env2 cls d F2 H2 q2 st2 rl2 r2 => he x env2 cls d F2 H2 q2 (st.trans st2) rl2 r2⟩, RpL.mono st as xs hx, hr⟩
theorem Pt.pure {c : γ} (h : Pt G W R σ H Q (ret c) B F env) {b : δ} (hr : R B F env σ H c b) : Q b H := by
  obtain ⟨Qd, Ed, rel, hm, hq, he⟩ := h
  exact hq c env b F H hm Stp.refl rel hr
theorem Pt.asked {p : Prop} {m : M γ} (h : Pt G W R σ H Q (ask p m) B F env) : p ∧ Pt G W R σ H Q m B F env := by
  obtain ⟨Qd, Ed, rel, ⟨hp, hm⟩, hq, he⟩ := h
  exact ⟨hp, Qd, Ed, rel, hm, hq, he⟩
theorem Pt.no (h : Pt G W R σ H Q fail B F env) : False := by
  obtain ⟨Qd, Ed, rel, hm, hq, he⟩ := h
  exact hm

/-! ### a new object -/
theorem rd_upd {a p : Addr} {u o : HO} (h : Rd H a u) (hp : H p = none) : Rd (upd H p o) a u := by
  rcases h with h | ⟨ob, h⟩
  · exact .inl (by rw [upd_ne (ne_of_none h hp)]; exact h)
  · exact .inr ⟨ob, by rw [upd_ne (ne_of_none h hp)]; exact h⟩
theorem stp_new {p : Addr} {o : HO} (hp : H p = none) : Stp B F H F (upd H p o) where
  tb := fun t => t.ext (fun _ z => z) fun b o e => by rw [upd_ne (ne_of_none e hp)]; exact e
  fm := fun _ h => h
  fn := fun _ h => .inl h
  hk0 := fun a o' _ e _ => by rw [upd_ne (ne_of_none e hp)]; exact e
  ht := fun a vs h => rd_upd h hp
theorem stp_newF {p : Addr} {o : HO} (hp : H p = none) (hB : ¬ B p) : Stp B F H (fun a => F a ∨ a = p) (upd H p o) where
  tb := fun t => t.ext (fun _ z => .inl z) fun b o e => by rw [upd_ne (ne_of_none e hp)]; exact e
  fm := fun _ h => .inl h
  fn := fun a h => h.elim .inl fun e => .inr (by subst e; exact hB)
  hk0 := fun a o' _ e _ => by rw [upd_ne (ne_of_none e hp)]; exact e
  ht := fun a vs h => rd_upd h hp
theorem Rel.notB (rel : Rel G B F σ env H) {p : Addr} (hp : H p = none) : ¬ B p := fun h => (rel.hB p h).1 hp
theorem Rel.notF (rel : Rel G B F σ env H) {p : Addr} (hp : H p = none) : ¬ F p := fun h => (rel.hF p h).1 hp
theorem OwAt.mono {F' : Addr → Prop} {H' : Hp} (s : Stp B F H F' H') {a : Addr} (e : H' a = H a) : ∀ {o : O}, OwAt G F H a o → OwAt G F' H' a o
  | .lst ds, ⟨vs, h1, h2⟩ => ⟨vs, e.trans h1, RpL.mono s ds vs h2⟩
  | .set S n, h => e.trans h
  | .dic kvs, ⟨l, h1, h2⟩ => ⟨l, e.trans h1, KvR.mono s kvs l h2⟩
  | .ins C fs, ⟨dx, l, h1, h2⟩ => ⟨dx, l, e.trans h1, FsR.mono s fs l h2⟩
theorem OwAt.some {a : Addr} : ∀ {o : O}, OwAt G F H a o → H a ≠ none
  | .lst ds, ⟨vs, h1, _⟩ => by rw [h1]; exact fun z => nomatch z
  | .set S n, h => by rw [show H a = _ from h]; exact fun z => nomatch z
  | .dic kvs, ⟨l, h1, _⟩ => by rw [h1]; exact fun z => nomatch z
  | .ins C fs, ⟨dx, l, h1, _⟩ => by rw [h1]; exact fun z => nomatch z
theorem OwAt.noTab {a : Addr} {o : O} (h : OwAt G F H a o) : ∀ ps, H a ≠ Option.some (HO.tbl ps) := fun ps z => by
  cases o with
  | lst ds => obtain ⟨vs, h1, _⟩ := h; rw [z] at h1; cases h1
  | set S n => have h1 : H a = Option.some (SetO G.w a S n) := h; rw [z] at h1; have h2 : HO.tbl ps = HO.ext _ := Option.some.inj h1; cases h2
  | dic kvs => obtain ⟨l, h1, _⟩ := h; rw [z] at h1; cases h1
  | ins C fs => obtain ⟨dx, l, h1, _⟩ := h; rw [z] at h1; cases h1
theorem OwAt.noCode {a : Addr} {o : O} (h : OwAt G F H a o) : ∀ q, H a ≠ Option.some (LamX.CodeO a q) := fun q z => by
  cases o with
  | lst ds => obtain ⟨vs, h1, _⟩ := h; rw [z] at h1; have h2 : HO.ext _ = HO.lst vs := Option.some.inj h1; cases h2
  | set S n =>
    have h1 : H a = Option.some (SetO G.w a S n) := h
    rw [z] at h1
    have h2 : HO.ext _ = HO.ext _ := Option.some.inj h1
    have h3 := congrFun (HO.ext.inj h2) ⟨Array.replicate (a + 1) { cls := .none, data := .fields #[.none, .str q 0] }, {}⟩
    have g : Heap.get? ⟨Array.replicate (a + 1) { cls := .none, data := .fields #[.none, .str q 0] }, {}⟩ a = Option.some { cls := .none, data := .fields #[.none, .str q 0] } := by
      unfold Heap.get?
      rw [Array.getElem?_replicate, if_pos (Nat.lt_succ_self a)]
    have h4 := h3.mp ⟨_, _, _, g, rfl, rfl⟩
    obtain ⟨o, es, ep, t, e1, _, e2, _⟩ := h4
    rw [g] at e1
    cases e1
    cases e2
  | dic kvs => obtain ⟨l, h1, _⟩ := h; rw [z] at h1; have h2 : HO.ext _ = HO.dK l := Option.some.inj h1; cases h2
  | ins C fs => obtain ⟨dx, l, h1, _⟩ := h; rw [z] at h1; have h2 : HO.ext _ = HO.ins C dx l := Option.some.inj h1; cases h2
/-- the slots stand over a step that leaves the owned objects as they are -/
theorem Rel.step {F' : Addr → Prop} {H' : Hp} (rel : Rel G B F σ env H) (s : Stp B F H F' H') (ho : ∀ i a, OwnAt env σ i a → H' a = H a ∧ ¬ F' a) (hF : ∀ a, F' a → Nt H' a) : Rel G B F' σ env H' := by
  refine ⟨rel.len, fun i sl e => ?_, rel.ap, fun a h => s.hs a (.inl h) (rel.hB a h), hF, s.tb rel.tb⟩
  have q := rel.sl i sl e
  cases sl with
  | no => trivial
  | im d => obtain ⟨v, h1, h2⟩ := q; exact ⟨v, h1, Rp.mono s d v h2⟩
  | ow o =>
    obtain ⟨a, h1, h2, h3, h4⟩ := q
    obtain ⟨e1, e2⟩ := ho i a ⟨⟨_, e, rfl⟩, h1⟩
    exact ⟨a, h1, e2, h3, OwAt.mono s e1 h4⟩
  | io a o =>
    obtain ⟨h1, h2, h3, h4⟩ := q
    obtain ⟨e1, e2⟩ := ho i a ⟨⟨_, e, rfl⟩, h1⟩
    exact ⟨h1, e2, h3, OwAt.mono s e1 h4⟩
theorem Rel.ownSome (rel : Rel G B F σ env H) {i : Nat} {a : Addr} (h : OwnAt env σ i a) : H a ≠ none ∧ ¬ F a ∧ ¬ B a := by
  obtain ⟨⟨s, e, k⟩, hσ⟩ := h
  have q := rel.sl i s e
  cases s with
  | no => cases k
  | im d => cases k
  | ow o =>
    obtain ⟨b, h1, h2, h3, h4⟩ := q
    rw [hσ] at h1; cases h1
    exact ⟨h4.some, h2, h3⟩
  | io b o =>
    obtain ⟨h1, h2, h3, h4⟩ := q
    rw [hσ] at h1; cases h1
    exact ⟨h4.some, h2, h3⟩
theorem Rel.ownTab (rel : Rel G B F σ env H) {i : Nat} {a : Addr} (h : OwnAt env σ i a) : ∀ ps, H a ≠ some (.tbl ps) := by
  obtain ⟨⟨s, e, k⟩, hσ⟩ := h
  have q := rel.sl i s e
  cases s with
  | no => cases k
  | im d => cases k
  | ow o =>
    obtain ⟨b, h1, h2, h3, h4⟩ := q
    rw [hσ] at h1; cases h1
    exact h4.noTab
  | io b o =>
    obtain ⟨h1, h2, h3, h4⟩ := q
    rw [hσ] at h1; cases h1
    exact h4.noTab
theorem Rel.new {p : Addr} {o : HO} (rel : Rel G B F σ env H) (hp : H p = none) : Rel G B F σ env (upd H p o) :=
  rel.step (stp_new hp) (fun i a h => ⟨upd_ne fun e => by subst e; exact (rel.ownSome h).1 hp, (rel.ownSome h).2.1⟩) fun a h => (stp_new (B := B) (F := F) hp).hs a (.inr h) (rel.hF a h)
theorem Rel.newF {p : Addr} {o : HO} (rel : Rel G B F σ env H) (hp : H p = none) (no : ∀ ps, o ≠ .tbl ps := by intro _ z; cases z) : Rel G B (fun a => F a ∨ a = p) σ env (upd H p o) :=
  rel.step (stp_newF hp (rel.notB hp)) (fun i a h => ⟨upd_ne fun e => by subst e; exact (rel.ownSome h).1 hp, fun z => z.elim (rel.ownSome h).2.1 fun e => by subst e; exact (rel.ownSome h).1 hp⟩)
    fun a h => h.elim (fun q => (stp_new (B := B) (F := F) hp).hs a (.inr q) (rel.hF a q)) fun e => by subst e; exact Nt.of upd_same no
/-- a new pair, only taken apart -/
theorem Pt.pr {ds : List D} {vs : List V} {p : Addr} {Q : V → Hp → Prop} (h : Pt G W (RD G) σ H Q (ret (.pr ds)) B F env) (hx : RpL G F H ds vs) (hp : H p = none) : Q (.ref p) (upd H p (.tup vs)) := by
  obtain ⟨Qd, Ed, rel, hm, hq, he⟩ := h
  exact hq _ env _ F _ hm (stp_new hp) (rel.new hp) ⟨p, vs, rfl, .inl upd_same, RpL.mono (stp_new (B := B) hp) ds vs hx⟩
/-- a new tuple -/
theorem Pt.tup {ds : List D} {vs : List V} {Q : V → Hp → Prop} (h : Pt G W (RD G) σ H Q (ret (.tup ds)) B F env) (hx : RpL G F H ds vs) : DLt.NewT vs H Q := by
  intro ob p dn hp
  obtain ⟨Qd, Ed, rel, hm, hq, he⟩ := h
  exact hq _ env _ (fun a => F a ∨ a = p) _ hm (stp_newF hp (rel.notB hp)) (rel.newF hp) ⟨p, vs, rfl, ⟨.inr rfl, ob, upd_same, dn⟩, RpL.mono (stp_newF (B := B) hp (rel.notB hp)) ds vs hx⟩
/-- a new list that nobody will write -/
theorem Pt.lst {ds : List D} {vs : List V} {p : Addr} {Q : V → Hp → Prop} (h : Pt G W (RD G) σ H Q (ret (.lst ds)) B F env) (hx : RpL G F H ds vs) (hp : H p = none) : Q (.ref p) (upd H p (.lst vs)) := by
  obtain ⟨Qd, Ed, rel, hm, hq, he⟩ := h
  exact hq _ env _ (fun a => F a ∨ a = p) _ hm (stp_newF hp (rel.notB hp)) (rel.newF hp) ⟨p, vs, rfl, .inr rfl, upd_same, RpL.mono (stp_newF (B := B) hp (rel.notB hp)) ds vs hx⟩
/-- a new list to be owned -/
theorem Pt.olst {ds : List D} {vs : List V} {p : Addr} {Q : V → Hp → Prop} (h : Pt G W (RO G) σ H Q (ret (.lst ds)) B F env) (hx : RpL G F H ds vs) (hp : H p = none) : Q (.ref p) (upd H p (.lst vs)) := by
  obtain ⟨Qd, Ed, rel, hm, hq, he⟩ := h
  exact hq _ env _ F _ hm (stp_new hp) (rel.new hp) ⟨p, rfl, rel.notF hp, rel.notB hp, ⟨vs, upd_same, RpL.mono (stp_new (B := B) hp) ds vs hx⟩, fun i h => (rel.ownSome h).1 hp⟩

/-! ### a rule by a stronger wish -/
theorem peImp {X : Cx} {e : Expr} {t t' : TE} (h : PE X e t) (i : ∀ σ H Q, t' σ H Q → t σ H Q) : PE X e t' := ⟨fun pins s σ H Q I q => h.run pins s σ H Q I (i σ H Q q)⟩
theorem ptImp {X : Cx} {e : Expr} {t t' : TT} (h : PT X e t) (i : ∀ σ H Q, t' σ H Q → t σ H Q) : PT X e t' := ⟨fun pins s σ H Q I q => h.run pins s σ H Q I (i σ H Q q)⟩
theorem paImp {X : Cx} {e : List Expr} {t t' : TA} (h : PA X e t) (i : ∀ σ H Q, t' σ H Q → t σ H Q) : PA X e t' := ⟨fun pos pins s σ H Q I q => h.run pos pins s σ H Q I (i σ H Q q)⟩
theorem psImp {X : Cx} {st : Stmt} {t t' : TS} (h : PS X st t) (i : ∀ D σ H, t' D σ H → t D σ H) : PS X st t' := ⟨fun pins s σ H D I q => h.run pins s σ H D I (i D σ H q)⟩
theorem pssImp {X : Cx} {st : List Stmt} {t t' : TS} (h : PSs X st t) (i : ∀ D σ H, t' D σ H → t D σ H) : PSs X st t' := ⟨fun pins s σ H D I q => h.run pins s σ H D I (i D σ H q)⟩
theorem piImp {X : Cx} {tg e : Expr} {t t' : TI} (h : PI X tg e t) (i : ∀ σ H Q, t' σ H Q → t σ H Q) : PI X tg e t' := ⟨fun pins s σ H Q I q => h.run pins s σ H Q I (i σ H Q q)⟩
end
end DL

set_option Elab.async false
set_option linter.all false
set_option maxRecDepth 100000
set_option maxHeartbeats 2000000
namespace DL
open PySem PySem.Spec PyProof.Rows L2
variable [Tbs]

abbrev gx (X : Cx) (C : Addr) : Gx := ⟨C, X.mg, X.K, X.w, X.prog⟩

section
variable {G : Gx} {W : WX} {B F : Addr → Prop} {σ : L2.St} {H : Hp} {env : List Slot} {α β γ δ : Type}
variable {R : (Addr → Prop) → (Addr → Prop) → List Slot → L2.St → Hp → γ → δ → Prop} {Ra : (Addr → Prop) → (Addr → Prop) → List Slot → L2.St → Hp → α → β → Prop} {Q : δ → Hp → Prop}

theorem Lift.imp {m : M α} {Q Q' : β → Hp → Prop} (h : Lift G W Ra m σ H Q) (i : ∀ b H', Q b H' → Q' b H') : Lift G W Ra m σ H Q' := by
  obtain ⟨B, F, env, Qd, Ed, rel, hm, hq, he⟩ := h
  exact ⟨B, F, env, Qd, Ed, rel, hm, fun a env' b F' H' q st rl r => i _ _ (hq a env' b F' H' q st rl r), he⟩
theorem Pt.lift {m : M γ} (h : Pt G W R σ H Q m B F env) : Lift G W R m σ H Q := ⟨B, F, env, h⟩

/-- one operand -/
theorem lift1 {ma : M α} {k : α → M γ} (h : Lift G W R (bnd ma k) σ H Q) :
    Lift G W Ra ma σ H fun x H1 => ∃ B F env a, Pt G W R σ H1 Q (k a) B F env ∧ Ra B F env σ H1 a x := by
  obtain ⟨B, F, env, h⟩ := h
  exact (h.bind (Ra := Ra) (as := []) (xs := []) rfl).imp fun y H' ⟨F', env', b, p, _, r⟩ => ⟨B, F', env', b, p, r⟩
/-- two operands -/
theorem lift2 {ma mb : M D} {k : D → D → M γ} (h : Lift G W R (bnd ma fun a => bnd mb fun b => k a b) σ H Q) :
    Lift G W (RD G) ma σ H fun x H1 => Lift G W (RD G) mb σ H1 fun y H2 => ∃ B F env a b, Pt G W R σ H2 Q (k a b) B F env ∧ Rp G F H2 a x ∧ Rp G F H2 b y := by
  obtain ⟨B, F, env, h⟩ := h
  refine (h.bind (Ra := RD G) (as := []) (xs := []) rfl).imp fun x H1 ⟨F1, env1, a, p1, _, r1⟩ => ?_
  refine (p1.bind (Ra := RD G) (as := [a]) (xs := [x]) ⟨x, [], rfl, r1, rfl⟩).imp fun y H2 ⟨F2, env2, b, p2, ⟨x', r, e, ra, _⟩, rb⟩ => ?_
  cases e
  exact ⟨B, F2, env2, a, b, p2, ra, rb⟩
/-- three operands -/
theorem lift3 {ma mb mc : M D} {k : D → D → D → M γ} (h : Lift G W R (bnd ma fun a => bnd mb fun b => bnd mc fun c => k a b c) σ H Q) :
    Lift G W (RD G) ma σ H fun x H1 => Lift G W (RD G) mb σ H1 fun y H2 => Lift G W (RD G) mc σ H2 fun z H3 => ∃ B F env a b c, Pt G W R σ H3 Q (k a b c) B F env ∧ Rp G F H3 a x ∧ Rp G F H3 b y ∧ Rp G F H3 c z := by
  obtain ⟨B, F, env, h⟩ := h
  refine (h.bind (Ra := RD G) (as := []) (xs := []) rfl).imp fun x H1 ⟨F1, env1, a, p1, _, r1⟩ => ?_
  refine (p1.bind (Ra := RD G) (as := [a]) (xs := [x]) ⟨x, [], rfl, r1, rfl⟩).imp fun y H2 ⟨F2, env2, b, p2, ra, rb⟩ => ?_
  refine (p2.bind (Ra := RD G) (as := [b, a]) (xs := [y, x]) ⟨y, [x], rfl, rb, ra⟩).imp fun z H3 ⟨F3, env3, c, p3, ⟨y', r, e, rb, x', r', e', ra, _⟩, rc⟩ => ?_
  cases e
  cases e'
  exact ⟨B, F3, env3, a, b, c, p3, ra, rb, rc⟩

/-! ### data in lists -/
theorem RpL.length : ∀ {ds : List D} {vs : List V}, RpL G F H ds vs → ds.length = vs.length
  | [], _, h => by cases (show _ = _ from h); rfl
  | _ :: _, _, ⟨v, r, e, _, h⟩ => by subst e; simp [RpL.length h]
theorem RpL.get : ∀ {ds : List D} {vs : List V} {i : Nat} {d : D}, RpL G F H ds vs → ds[i]? = some d → ∃ v, vs[i]? = some v ∧ Rp G F H d v
  | [], _, _, _, _, e => by simp at e
  | _ :: _, _, 0, _, ⟨v, r, e, h, _⟩, q => by subst e; simp at q; subst q; exact ⟨v, rfl, h⟩
  | _ :: _, _, i + 1, _, ⟨v, r, e, _, h⟩, q => by
    subst e
    obtain ⟨u, h1, h2⟩ := RpL.get (i := i) h (by simpa using q)
    exact ⟨u, by simpa using h1, h2⟩
theorem RpL.append : ∀ {ds es : List D} {vs us : List V}, RpL G F H ds vs → RpL G F H es us → RpL G F H (ds ++ es) (vs ++ us)
  | [], _, _, _, h, h' => by cases (show _ = _ from h); exact h'
  | _ :: _, _, _, _, ⟨v, r, e, h, t⟩, h' => by subst e; exact ⟨v, r ++ _, rfl, h, RpL.append t h'⟩
theorem RpL.take : ∀ {ds : List D} {vs : List V} (n : Nat), RpL G F H ds vs → RpL G F H (ds.take n) (vs.take n)
  | _, _, 0, _ => by rw [List.take_zero, List.take_zero]; exact rfl
  | [], _, n + 1, h => by cases (show _ = _ from h); exact rfl
  | _ :: _, _, n + 1, ⟨v, r, e, h, t⟩ => by subst e; exact ⟨v, _, rfl, h, RpL.take n t⟩
theorem RpL.drop : ∀ {ds : List D} {vs : List V} (n : Nat), RpL G F H ds vs → RpL G F H (ds.drop n) (vs.drop n)
  | _, _, 0, h => h
  | [], _, n + 1, h => by cases (show _ = _ from h); exact rfl
  | _ :: _, _, n + 1, ⟨v, r, e, h, t⟩ => by subst e; exact RpL.drop n t
theorem RpL.set : ∀ {ds : List D} {vs : List V} {d : D} {v : V} (n : Nat), RpL G F H ds vs → Rp G F H d v → RpL G F H (ds.set n d) (vs.set n v)
  | [], _, _, _, _, h, _ => by cases (show _ = _ from h); exact rfl
  | _ :: _, _, _, _, 0, ⟨u, r, e, h, t⟩, q => by subst e; exact ⟨_, r, rfl, q, t⟩
  | _ :: _, _, _, _, n + 1, ⟨u, r, e, h, t⟩, q => by subst e; exact ⟨u, _, rfl, h, RpL.set n t q⟩
theorem RpL.snoc {ds : List D} {vs : List V} {d : D} {v : V} (h : RpL G F H ds vs) (q : Rp G F H d v) : RpL G F H (ds ++ [d]) (vs ++ [v]) := h.append ⟨v, [], rfl, q, rfl⟩
theorem RpL.eraseIdx : ∀ {ds : List D} {vs : List V} (n : Nat), RpL G F H ds vs → RpL G F H (ds.eraseIdx n) (vs.eraseIdx n)
  | [], _, _, h => by cases (show _ = _ from h); exact rfl
  | _ :: _, _, 0, ⟨u, r, e, h, t⟩ => by subst e; exact t
  | _ :: _, _, n + 1, ⟨u, r, e, h, t⟩ => by subst e; exact ⟨u, _, rfl, h, RpL.eraseIdx n t⟩
theorem RpL.ints : ∀ {ns : List Int} {vs : List V}, RpL G F H (ns.map D.int) vs ↔ vs = ns.map V.int
  | [], vs => Iff.rfl
  | n :: ns, vs => ⟨fun ⟨v, r, e, h, t⟩ => by subst e; rw [show v = V.int n from h, RpL.ints.mp t]; rfl, fun e => by subst e; exact ⟨_, _, rfl, rfl, RpL.ints.mpr rfl⟩⟩
theorem RpL.at {ds : List D} {vs : List V} {i : Int} {d : D} (h : RpL G F H ds vs) (e : atI ds i = some d) : ∃ v, atI vs i = some v ∧ Rp G F H d v := by
  unfold atI at e ⊢
  rw [← h.length]
  cases q : ixN ds.length i with
  | none => rw [q] at e; cases e
  | some j =>
    rw [q] at e
    exact h.get (i := j) e

/-! ### the operators over data -/
def addD : D → D → M D
  | .int i, .int j => ret (.int (i + j))
  | .str s, .str t => ask (s.length + t.length ≤ sizeLine) (ret (.str (s ++ t)))
  | .tup a, .tup b => ask (a.length + b.length ≤ sizeLine) (ret (.tup (a ++ b)))
  | .lst a, .lst b => ask (a.length + b.length ≤ sizeLine) (ret (.lst (a ++ b)))
  | _, _ => fail
def subD : D → D → M D
  | .int i, .int j => ret (.int (i - j))
  | _, _ => fail
def mulD : D → D → M D
  | .int i, .int j => ask (CMul i j) (ret (.int (i * j)))
  | .lst a, .int k => ask (-(2 ^ 63) ≤ k ∧ k < 2 ^ 63 ∧ a.length * k.toNat ≤ sizeLine) (ret (.lst (List.replicate k.toNat a).flatten))
  | .tup a, .int k => ask (a ≠ [] ∧ 0 ≤ k ∧ k ≤ 1000 ∧ a.length ≤ 1000) (ret (.tup (List.replicate k.toNat a).flatten))
  | _, _ => fail
def modD : D → D → M D
  | .int i, .int j => ask (0 < j) (ret (.int (i % j)))
  | _, _ => fail
def fdivD : D → D → M D
  | .int i, .int j => ask (0 < j ∧ j < 1073741824) (ret (.int (i / j)))
  | _, _ => fail
def powD : D → D → M D
  | .int i, .int j => ask (0 ≤ j ∧ j ≤ 1000000 ∧ i.natAbs < 2 ^ 64) (ret (.int (i ^ j.toNat)))
  | _, _ => fail
def ltD : D → D → M D
  | .int i, .int j => ret (.bl (decide (i < j)))
  | _, _ => fail
def leD : D → D → M D
  | .int i, .int j => ret (.bl (decide (i ≤ j)))
  | _, _ => fail
def gtD : D → D → M D
  | .int i, .int j => ret (.bl (decide (j < i)))
  | _, _ => fail
def geD : D → D → M D
  | .int i, .int j => ret (.bl (decide (j ≤ i)))
  | _, _ => fail
def isNonD : D → D → M D
  | .non, .non => ret (.bl true)
  | _, .non => ret (.bl false)
  | _, _ => fail
def notNonD : D → D → M D
  | .non, .non => ret (.bl false)
  | _, .non => ret (.bl true)
  | _, _ => fail

/-- an operator's rule fits its form over data -/
def Fits (G : Gx) (W : WX) (r : R2) (k : D → D → M D) : Prop := ∀ {σ : L2.St} {H : Hp} {Q : V → Hp → Prop} {B F : Addr → Prop} {env : List Slot} {x y : V} {a b : D},
  Pt G W (RD G) σ H Q (k a b) B F env → Rp G F H a x → Rp G F H b y → r x y H Q
theorem fits_sub : Fits G W (rI0 fun i j => .int (i - j)) subD := by
  intro σ H Q B F env x y a b h ra rb
  cases a <;> cases b <;> first | exact h.no.elim | exact ⟨_, _, ra, rb, h.pure (b := .int _) rfl⟩
theorem fits_lt : Fits G W (rI0 fun i j => .bl (decide (i < j))) ltD := by
  intro σ H Q B F env x y a b h ra rb
  cases a <;> cases b <;> first | exact h.no.elim | exact ⟨_, _, ra, rb, h.pure (b := .bl _) rfl⟩
theorem fits_le : Fits G W (rI0 fun i j => .bl (decide (i ≤ j))) leD := by
  intro σ H Q B F env x y a b h ra rb
  cases a <;> cases b <;> first | exact h.no.elim | exact ⟨_, _, ra, rb, h.pure (b := .bl _) rfl⟩
theorem fits_gt : Fits G W (rI0 fun i j => .bl (decide (j < i))) gtD := by
  intro σ H Q B F env x y a b h ra rb
  cases a <;> cases b <;> first | exact h.no.elim | exact ⟨_, _, ra, rb, h.pure (b := .bl _) rfl⟩
theorem fits_ge : Fits G W (rI0 fun i j => .bl (decide (j ≤ i))) geD := by
  intro σ H Q B F env x y a b h ra rb
  cases a <;> cases b <;> first | exact h.no.elim | exact ⟨_, _, ra, rb, h.pure (b := .bl _) rfl⟩
theorem fits_mod : Fits G W (rI (fun _ j => 0 < j) fun i j => .int (i % j)) modD := by
  intro σ H Q B F env x y a b h ra rb
  cases a <;> cases b <;> first | exact h.no.elim | exact ⟨_, _, ra, rb, h.asked.1, h.asked.2.pure (b := .int _) rfl⟩
theorem fits_fdiv : Fits G W (rI CDiv fun i j => .int (i / j)) fdivD := by
  intro σ H Q B F env x y a b h ra rb
  cases a <;> cases b <;> first | exact h.no.elim | exact ⟨_, _, ra, rb, h.asked.1, h.asked.2.pure (b := .int _) rfl⟩
theorem fits_pow : Fits G W (rI CPow fun i j => .int (i ^ j.toNat)) powD := by
  intro σ H Q B F env x y a b h ra rb
  cases a <;> cases b <;> first | exact h.no.elim | exact ⟨_, _, ra, rb, h.asked.1, h.asked.2.pure (b := .int _) rfl⟩
theorem Rp.non_iff {d : D} {v : V} (h : Rp G F H d v) : v = .non ↔ d = .non := by
  cases d with
  | non => exact ⟨fun _ => rfl, fun _ => h⟩
  | bl _ => cases (show _ = _ from h); exact ⟨fun z => (nomatch z), fun z => (nomatch z)⟩
  | int _ => cases (show _ = _ from h); exact ⟨fun z => (nomatch z), fun z => (nomatch z)⟩
  | str _ => cases (show _ = _ from h); exact ⟨fun z => (nomatch z), fun z => (nomatch z)⟩
  | byt _ => cases (show _ = _ from h); exact ⟨fun z => (nomatch z), fun z => (nomatch z)⟩
  | tup _ => obtain ⟨a, _, e, _⟩ := h; subst e; exact ⟨fun z => (nomatch z), fun z => (nomatch z)⟩
  | pr _ => obtain ⟨a, _, e, _⟩ := h; subst e; exact ⟨fun z => (nomatch z), fun z => (nomatch z)⟩
  | lst _ => obtain ⟨a, _, e, _⟩ := h; subst e; exact ⟨fun z => (nomatch z), fun z => (nomatch z)⟩
  | hall _ _ => obtain ⟨a, _, e, _⟩ := h; subst e; exact ⟨fun z => (nomatch z), fun z => (nomatch z)⟩
  | scr _ => obtain ⟨a, e, _⟩ := h; subst e; exact ⟨fun z => (nomatch z), fun z => (nomatch z)⟩
  | emp => obtain ⟨a, e, _⟩ := h; subst e; exact ⟨fun z => (nomatch z), fun z => (nomatch z)⟩
  | exn _ _ _ => obtain ⟨a, _, _, _, e, _⟩ := h; subst e; exact ⟨fun z => (nomatch z), fun z => (nomatch z)⟩
theorem fits_isN : Fits G W (fun x y H Q => y = .non ∧ Q (.bl (decide (x = .non))) H) isNonD := by
  intro σ H Q B F env x y a b h ra rb
  cases b with
  | non =>
    refine ⟨rb, ?_⟩
    by_cases e : a = .non
    · subst e
      rw [decide_eq_true (show x = .non from ra)]
      exact h.pure (b := .bl true) rfl
    · rw [decide_eq_false fun z => e (ra.non_iff.mp z)]
      cases a <;> first | exact absurd rfl e | exact h.pure (b := .bl false) rfl
  | _ => cases a <;> exact h.no.elim
theorem fits_notN : Fits G W (fun x y H Q => y = .non ∧ Q (.bl (!decide (x = .non))) H) notNonD := by
  intro σ H Q B F env x y a b h ra rb
  cases b with
  | non =>
    refine ⟨rb, ?_⟩
    by_cases e : a = .non
    · subst e
      rw [decide_eq_true (show x = .non from ra)]
      exact h.pure (b := .bl false) rfl
    · rw [decide_eq_false fun z => e (ra.non_iff.mp z)]
      cases a <;> first | exact absurd rfl e | exact h.pure (b := .bl true) rfl
  | _ => cases a <;> exact h.no.elim
end
end DL

set_option Elab.async false
set_option linter.all false
set_option maxRecDepth 100000
set_option maxHeartbeats 2000000
namespace DL
open PySem PySem.Spec PyProof.Rows L2
variable [Tbs]

mutual
def py : D → PyData
  | .non => .none | .bl b => .bool b | .int i => .int i | .str s => .str s
  | .tup xs => .tuple (pyL xs) | .lst xs => .list (pyL xs)
  | _ => .none
def pyL : List D → List PyData
  | [] => []
  | x :: xs => py x :: pyL xs
end
mutual
def pyOk : D → Bool
  | .non => true | .bl b => true | .int i => true | .str s => PyData.canLay0 (.str s)
  | .tup xs => pyOkL xs | .lst xs => pyOkL xs
  | _ => false
def pyOkL : List D → Bool
  | [] => true
  | x :: xs => pyOk x && pyOkL xs
end
/-- == of data -/
def eqv (a b : D) : Bool := PyData.eqv (py a) (py b)
def flatD : D → Bool
  | .non => true | .bl _ => true | .int _ => true | .str _ => true
  | _ => false

section
variable {G : Gx} {W : WX} {B F : Addr → Prop} {σ : L2.St} {H : Hp} {env : List Slot} {α β γ δ : Type}

mutual
theorem Rp.dp : ∀ {d : D} {v : V}, Rp G F H d v → pyOk d = true → Dp G.K H v (py d)
  | .non, _, h, _ => by cases (show _ = _ from h); exact .non
  | .bl b, _, h, _ => by cases (show _ = _ from h); exact .bl b
  | .int b, _, h, _ => by cases (show _ = _ from h); exact .int b
  | .str b, _, h, _ => by cases (show _ = _ from h); exact .str b
  | .byt _, _, _, e => by cases e
  | .hall _ _, _, _, e => by cases e
  | .scr _, _, _, e => by cases e
  | .emp, _, _, e => by cases e
  | .exn _ _ _, _, _, e => by cases e
  | .pr _, _, _, e => by cases e
  | .tup ds, _, ⟨a, vs, e, h1, h2⟩, q => by subst e; exact .tup (.inl h1.rd) (RpL.dp h2 (by simpa [pyOk] using q))
  | .lst ds, _, ⟨a, vs, e, _, h1, h2⟩, q => by subst e; exact .lst (SqL.of h1) (RpL.dp h2 (by simpa [pyOk] using q))
theorem RpL.dp : ∀ {ds : List D} {vs : List V}, RpL G F H ds vs → pyOkL ds = true → DpAll G.K H vs (pyL ds)
  | [], _, h, _ => by cases (show _ = _ from h); exact .nil
  | d :: ds, _, ⟨v, r, e, h1, h2⟩, q => by
    subst e
    have q' : pyOk d = true ∧ pyOkL ds = true := by simpa [pyOkL] using q
    exact .cons (Rp.dp h1 q'.1) (RpL.dp h2 q'.2)
end
mutual
theorem canLay_py : ∀ d : D, pyOk d = true → PyData.canLay0 (py d) = true
  | .non, _ => rfl
  | .bl _, _ => rfl
  | .int _, _ => rfl
  | .str _, h => h
  | .byt _, e => by cases e
  | .hall _ _, e => by cases e
  | .scr _, e => by cases e
  | .emp, e => by cases e
  | .exn _ _ _, e => by cases e
  | .pr _, e => by cases e
  | .tup ds, h => by show PyData.canLayAll0 (pyL ds) = true; exact canLayL_py ds (by simpa [pyOk] using h)
  | .lst ds, h => by show PyData.canLayAll0 (pyL ds) = true; exact canLayL_py ds (by simpa [pyOk] using h)
theorem canLayL_py : ∀ ds : List D, pyOkL ds = true → PyData.canLayAll0 (pyL ds) = true
  | [], _ => rfl
  | d :: ds, h => by
    have q' : pyOk d = true ∧ pyOkL ds = true := by simpa [pyOkL] using h
    show (PyData.canLay0 (py d) && PyData.canLayAll0 (pyL ds)) = true
    rw [canLay_py d q'.1, canLayL_py ds q'.2]; rfl
end
/-- fit for ==: laid, not deeper than 64 -/
def eqOk (d : D) : Bool := pyOk d && decide ((py d).depth ≤ 64)
theorem shaped_py {d : D} (h : eqOk d = true) : SeqAt.shaped (py d) = true := by
  have q : pyOk d = true ∧ (py d).depth ≤ 64 := by simpa [eqOk] using h
  unfold SeqAt.shaped
  rw [canLay_py d q.1, decide_eq_true q.2]; rfl
theorem eqOk_ok {d : D} (h : eqOk d = true) : pyOk d = true := by
  have q : pyOk d = true ∧ (py d).depth ≤ 64 := by simpa [eqOk] using h
  exact q.1
def eqM (a b : D) : M D := match a, b with
  | .str s, .str t => ret (.bl (s == t))
  | a, b => ask (eqOk a = true ∧ eqOk b = true) (ret (.bl (eqv a b)))
def neM (a b : D) : M D := match a, b with
  | .str s, .str t => ret (.bl (!(s == t)))
  | a, b => ask (eqOk a = true ∧ eqOk b = true) (ret (.bl (!eqv a b)))
abbrev rEqs (K : PySem.W.Frag) : R2 := fun x y H Q => rEq x y H Q ∨ rEqD K x y H Q
abbrev rNes (K : PySem.W.Frag) : R2 := fun x y H Q => rNe x y H Q ∨ rNeD K x y H Q
theorem op_eqs {X : Cx} (hu : X.A.units + 64 < cLine) : OpR X (compareOp .Eq) (rEqs X.K) := op_eq.or (op_eqD hu)
theorem op_nes {X : Cx} (hu : X.A.units + 64 < cLine) : OpR X (compareOp .NotEq) (rNes X.K) := op_ne.or (op_neD hu)
theorem fits_eq : Fits G W (rEqs G.K) eqM := by
  intro σ H Q B F env x y a b h ra rb
  by_cases z : ∃ s t, a = .str s ∧ b = .str t
  · obtain ⟨s, t, e1, e2⟩ := z
    subst e1 e2
    cases (show _ = _ from ra); cases (show _ = _ from rb)
    exact .inl ⟨rfl, by rw [dec_str]; exact Pt.pure h (b := .bl _) rfl⟩
  · have e : eqM a b = ask (eqOk a = true ∧ eqOk b = true) (ret (.bl (eqv a b))) := by
      unfold eqM
      split
      · exact (z ⟨_, _, rfl, rfl⟩).elim
      · rfl
    rw [e] at h
    obtain ⟨⟨h1, h2⟩, h⟩ := h.asked
    exact .inr ⟨_, _, ra.dp (eqOk_ok h1), rb.dp (eqOk_ok h2), shaped_py h1, shaped_py h2, h.pure (b := .bl _) rfl⟩
theorem fits_ne : Fits G W (rNes G.K) neM := by
  intro σ H Q B F env x y a b h ra rb
  by_cases z : ∃ s t, a = .str s ∧ b = .str t
  · obtain ⟨s, t, e1, e2⟩ := z
    subst e1 e2
    cases (show _ = _ from ra); cases (show _ = _ from rb)
    exact .inl ⟨rfl, by rw [dec_str]; exact Pt.pure h (b := .bl _) rfl⟩
  · have e : neM a b = ask (eqOk a = true ∧ eqOk b = true) (ret (.bl (!eqv a b))) := by
      unfold neM
      split
      · exact (z ⟨_, _, rfl, rfl⟩).elim
      · rfl
    rw [e] at h
    obtain ⟨⟨h1, h2⟩, h⟩ := h.asked
    exact .inr ⟨_, _, ra.dp (eqOk_ok h1), rb.dp (eqOk_ok h2), shaped_py h1, shaped_py h2, h.pure (b := .bl _) rfl⟩

theorem Fits.or1 {r r' : R2} {k : D → D → M D} (h : Fits G W r k) : Fits G W (fun x y H Q => r x y H Q ∨ r' x y H Q) k := fun p a b => .inl (h p a b)

/-! ### + -/
abbrev rAdds (K : PySem.W.Frag) : R2 := fun x y H Q => (rI0 fun i j => .int (i + j)) x y H Q ∨ ((fun x y H Q => ∃ i j, x = .str i ∧ y = .str j ∧ i.length + j.length ≤ sizeLine ∧ Q (.str (i ++ j)) H) x y H Q ∨ (DLt.fCat K x y H Q ∨ rCat x y H Q))
theorem op_adds {X : Cx} : OpR X (binaryOp .Add) (rAdds X.K) := op_add.or (op_add_str.or (DLt.op_catF.or op_cat))
theorem fits_add : Fits G W (rAdds G.K) addD := by
  intro σ H Q B F env x y a b h ra rb
  cases a with
  | int i => cases b with
    | int j => exact .inl ⟨_, _, ra, rb, h.pure (b := .int _) rfl⟩
    | _ => exact h.no.elim
  | str s => cases b with
    | str t => exact .inr (.inl ⟨_, _, ra, rb, h.asked.1, h.asked.2.pure (b := .str _) rfl⟩)
    | _ => exact h.no.elim
  | tup as => cases b with
    | tup bs =>
      obtain ⟨p, vs, e, h1, h2⟩ := id ra
      obtain ⟨q, us, e', h1', h2'⟩ := id rb
      subst e; subst e'
      refine .inr (.inr (.inl ⟨p, q, vs, us, rfl, rfl, .inl h1.rd, .inl h1'.rd, by rw [← h2.length, ← h2'.length]; exact h.asked.1, fun z => ?_, fun z => ?_, ?_⟩))
      · subst z
        have z : as = [] := List.length_eq_zero_iff.mp h2.length
        subst z
        exact h.asked.2.pure rb
      · subst z
        have z : bs = [] := List.length_eq_zero_iff.mp h2'.length
        subst z
        exact h.asked.2.pure (by rw [List.append_nil]; exact ra)
      · exact h.asked.2.tup (h2.append h2')
    | _ => exact h.no.elim
  | lst as => cases b with
    | lst bs =>
      obtain ⟨p, vs, e, _, h1, h2⟩ := ra
      obtain ⟨q, us, e', _, h1', h2'⟩ := rb
      subst e; subst e'
      exact .inr (.inr (.inr ⟨p, q, vs, us, rfl, rfl, h1, h1', by rw [← h2.length, ← h2'.length]; exact h.asked.1, fun o ho => h.asked.2.lst (h2.append h2') ho⟩))
    | _ => exact h.no.elim
  | _ => cases b <;> exact h.no.elim
theorem RpL.rep {ds : List D} {vs : List V} (h : RpL G F H ds vs) : ∀ n : Nat, RpL G F H (List.replicate n ds).flatten (List.replicate n vs).flatten
  | 0 => rfl
  | n + 1 => by
    rw [List.replicate_succ, List.replicate_succ, List.flatten_cons, List.flatten_cons]
    exact h.append (RpL.rep h n)
abbrev rMuls (K : PySem.W.Frag) : R2 := fun x y H Q => (rI CMul fun i j => .int (i * j)) x y H Q ∨ (rRep x y H Q ∨ DLt.fRep K x y H Q)
theorem op_muls {X : Cx} : OpR X (binaryOp .Mult) (rMuls X.K) := op_mul.or (op_rep.or DLt.op_repF)
theorem fits_mul : Fits G W (rMuls G.K) mulD := by
  intro σ H Q B F env x y a b h ra rb
  cases a with
  | int i => cases b with
    | int j => exact .inl ⟨_, _, ra, rb, h.asked.1, h.asked.2.pure (b := .int _) rfl⟩
    | _ => exact h.no.elim
  | lst as => cases b with
    | int k =>
      obtain ⟨p, vs, e, _, h1, h2⟩ := ra
      subst e
      obtain ⟨⟨g1, g2, g3⟩, h⟩ := h.asked
      exact .inr (.inl ⟨p, k, vs, rfl, rb, h1, g1, g2, by rw [← h2.length]; exact g3, fun o ho => h.lst (h2.rep _) ho⟩)
    | _ => exact h.no.elim
  | tup as => cases b with
    | int k =>
      obtain ⟨p, vs, e, h1, h2⟩ := id ra
      subst e
      obtain ⟨⟨g0, g1, g2, g3⟩, h⟩ := h.asked
      refine .inr (.inr ⟨p, k, vs, rfl, rb, .inl h1.rd, fun z => ?_, g1, g2, by rw [← h2.length]; exact g3, fun z => ?_, h.tup (h2.rep _)⟩)
      · subst z
        have z := h2.length
        cases as with
        | nil => exact g0 rfl
        | cons _ _ => cases z
      · subst z
        exact h.pure (show Rp G F H _ _ by simpa using ra)
    | _ => exact h.no.elim
  | _ => cases b <;> exact h.no.elim

/-! ### in -/
def inM (a b : D) : M D := match b with
  | .tup ds => ask (flatD a = true ∧ ds.all flatD = true) (ret (.bl (ds.any fun d => eqv d a)))
  | .lst ds => ask (flatD a = true ∧ ds.all flatD = true) (ret (.bl (ds.any fun d => eqv d a)))
  | _ => fail
def ninM (a b : D) : M D := match b with
  | .tup ds => ask (flatD a = true ∧ ds.all flatD = true) (ret (.bl (!ds.any fun d => eqv d a)))
  | .lst ds => ask (flatD a = true ∧ ds.all flatD = true) (ret (.bl (!ds.any fun d => eqv d a)))
  | _ => fail
theorem flat_of {d : D} {v : V} (h : Rp G F H d v) (f : flatD d = true) : flatV v = true := by
  cases d <;> first | (cases (show _ = _ from h); rfl) | cases f
theorem flats_of : ∀ {ds : List D} {vs : List V}, RpL G F H ds vs → ds.all flatD = true → vs.all flatV = true
  | [], _, h, _ => by cases (show _ = _ from h); rfl
  | d :: ds, _, ⟨v, r, e, h1, h2⟩, q => by
    subst e
    have q' : flatD d = true ∧ ds.all flatD = true := by simpa using q
    rw [List.all_cons, flat_of h1 q'.1, flats_of h2 q'.2]; rfl
theorem eqv_flat {d e : D} {v u : V} (h : Rp G F H d v) (h' : Rp G F H e u) (f : flatD d = true) (f' : flatD e = true) : eqV v u = eqv d e := by
  cases d <;> first
    | exact (Bool.false_ne_true f).elim
    | (cases (show _ = _ from h)
       cases e <;> first
         | exact (Bool.false_ne_true f').elim
         | (cases (show _ = _ from h'); rfl))
theorem in_flat {e : D} {u : V} (h' : Rp G F H e u) (f' : flatD e = true) : ∀ {ds : List D} {vs : List V}, RpL G F H ds vs → ds.all flatD = true → inV u vs = ds.any fun d => eqv d e
  | [], _, h, _ => by cases (show _ = _ from h); rfl
  | d :: ds, _, ⟨v, r, z, h1, h2⟩, q => by
    subst z
    have q' : flatD d = true ∧ ds.all flatD = true := by simpa using q
    show (eqV v u || inV u r) = _
    rw [List.any_cons, eqv_flat h1 h' q'.1 f', in_flat h' f' h2 q'.2]
theorem fits_in : Fits G W (rIn G.K false) inM := by
  intro σ H Q B F env x y a b h ra rb
  cases b with
  | tup ds =>
    obtain ⟨p, vs, e, h1, h2⟩ := rb
    subst e
    obtain ⟨⟨g1, g2⟩, h⟩ := Pt.asked h
    refine ⟨p, vs, rfl, .inr (.inl h1.rd), flat_of ra g1, flats_of h2 g2, ?_⟩
    exact h.pure (b := .bl _) (by rw [if_neg Bool.false_ne_true, in_flat ra g1 h2 g2]; rfl)
  | lst ds =>
    obtain ⟨p, vs, e, _, h1, h2⟩ := rb
    subst e
    obtain ⟨⟨g1, g2⟩, h⟩ := Pt.asked h
    refine ⟨p, vs, rfl, .inl (SqL.of h1), flat_of ra g1, flats_of h2 g2, ?_⟩
    exact h.pure (b := .bl _) (by rw [if_neg Bool.false_ne_true, in_flat ra g1 h2 g2]; rfl)
  | _ => exact (Pt.no h).elim
theorem fits_nin : Fits G W (rIn G.K true) ninM := by
  intro σ H Q B F env x y a b h ra rb
  cases b with
  | tup ds =>
    obtain ⟨p, vs, e, h1, h2⟩ := rb
    subst e
    obtain ⟨⟨g1, g2⟩, h⟩ := Pt.asked h
    refine ⟨p, vs, rfl, .inr (.inl h1.rd), flat_of ra g1, flats_of h2 g2, ?_⟩
    exact h.pure (b := .bl _) (by rw [if_pos rfl, in_flat ra g1 h2 g2]; rfl)
  | lst ds =>
    obtain ⟨p, vs, e, _, h1, h2⟩ := rb
    subst e
    obtain ⟨⟨g1, g2⟩, h⟩ := Pt.asked h
    refine ⟨p, vs, rfl, .inl (SqL.of h1), flat_of ra g1, flats_of h2 g2, ?_⟩
    exact h.pure (b := .bl _) (by rw [if_pos rfl, in_flat ra g1 h2 g2]; rfl)
  | _ => exact (Pt.no h).elim

/-! ### a[i], a[i:j] -/
def ixM (a b : D) : M D := match a, b with
  | .tup ds, .int i => match atI ds i with
    | some d => ret d
    | none => fail
  | .lst ds, .int i => match atI ds i with
    | some d => ret d
    | none => fail
  | .scr ns, .int i => match atI ns i with
    | some d => ret (.int d)
    | none => fail
  | .str s, .int i => match atI s.cps.toList i with
    | some c => ask (s.length ≤ sizeLine) (ret (.str ⟨#[c]⟩))
    | none => fail
  | _, _ => fail
theorem atI_map {α β : Type} {f : α → β} {xs : List α} {i : Int} {a : α} (h : atI xs i = some a) : atI (xs.map f) i = some (f a) := by
  unfold atI at h ⊢
  rw [List.length_map]
  cases q : ixN xs.length i with
  | none => rw [q] at h; cases h
  | some j =>
    rw [q] at h
    have h' : xs[j]? = some a := h
    show (xs.map f)[j]? = _
    rw [List.getElem?_map, h']; rfl
theorem scrSq {ns : List Int} {v : V} (h : Rp G F H (.scr ns) v) : ∃ a, v = .ref a ∧ SqL G.K H a (ns.map V.int) := by
  obtain ⟨a, e, h⟩ := h
  exact ⟨a, e, h.elim (fun q => .inl q.2) fun q => q H⟩
theorem fits_ix : Fits G W (rIx G.K) ixM := by
  intro σ H Q B F env x y a b h ra rb
  cases b with
  | int i =>
    cases a with
    | tup ds =>
      obtain ⟨p, vs, e, h1, h2⟩ := ra
      subst e
      cases q : atI ds i with
      | none => exact (Pt.no (by simpa only [ixM, q] using h)).elim
      | some d =>
        obtain ⟨v, hv, rv⟩ := h2.at q
        have h' : Pt G W (RD G) σ H Q (ret d) B F env := by simpa only [ixM, q] using h
        exact .inr (.inl ⟨p, vs, i, v, rfl, rb, .inl h1.rd, hv, h'.pure rv⟩)
    | lst ds =>
      obtain ⟨p, vs, e, _, h1, h2⟩ := ra
      subst e
      cases q : atI ds i with
      | none => exact (Pt.no (by simpa only [ixM, q] using h)).elim
      | some d =>
        obtain ⟨v, hv, rv⟩ := h2.at q
        have h' : Pt G W (RD G) σ H Q (ret d) B F env := by simpa only [ixM, q] using h
        exact .inl ⟨p, vs, i, v, rfl, rb, SqL.of h1, hv, h'.pure rv⟩
    | scr ns =>
      obtain ⟨p, e, h1⟩ := scrSq ra
      subst e
      cases q : atI ns i with
      | none => exact (Pt.no (by simpa only [ixM, q] using h)).elim
      | some d =>
        have h' : Pt G W (RD G) σ H Q (ret (.int d)) B F env := by simpa only [ixM, q] using h
        exact .inl ⟨p, _, i, .int d, rfl, rb, h1, atI_map q, h'.pure (b := .int d) rfl⟩
    | str s =>
      cases q : atI s.cps.toList i with
      | none => exact (Pt.no (by simpa only [ixM, q] using h)).elim
      | some c =>
        have h' : Pt G W (RD G) σ H Q (ask (s.length ≤ sizeLine) (ret (.str ⟨#[c]⟩))) B F env := by simpa only [ixM, q] using h
        exact .inr (.inr ⟨s, i, c, ra, rb, h'.asked.1, q, h'.asked.2.pure (b := .str _) rfl⟩)
    | _ => exact (Pt.no h).elim
  | _ => cases a <;> exact (Pt.no h).elim
end
end DL

set_option Elab.async false
set_option linter.all false
set_option maxRecDepth 100000
set_option maxHeartbeats 2000000
namespace DL
open PySem PySem.Spec PyProof.Rows L2
variable [Tbs]

def do2 {γ : Type} (ma mb : M D) (k : D → D → M γ) : M γ := bnd ma fun a => bnd mb fun b => k a b
def asB : D → M Bool
  | .bl b => ret b
  | _ => fail
def RQ {α : Type} : (Addr → Prop) → (Addr → Prop) → List Slot → L2.St → Hp → α → α → Prop := fun _ _ _ _ _ a b => a = b
abbrev tQ {α : Type} (G : Gx) (W : WX) (m : M α) : L2.St → Hp → (α → Hp → Prop) → Prop := Lift G W RQ m

section
variable {G : Gx} {W : WX} {B F : Addr → Prop} {σ : L2.St} {H : Hp} {env : List Slot} {α β γ δ : Type}
variable {R : (Addr → Prop) → (Addr → Prop) → List Slot → L2.St → Hp → γ → δ → Prop} {Ra : (Addr → Prop) → (Addr → Prop) → List Slot → L2.St → Hp → α → β → Prop} {Q : δ → Hp → Prop}
theorem Pt.bindP {ma : M α} {k : α → M γ} {as : List D} {xs : List V} (h : Pt G W R σ H Q (bnd ma k) B F env) (hx : RpL G F H as xs) :
    Pt G W Ra σ H (fun y H' => ∃ F' env' b, Pt G W R σ H' Q (k b) B F' env' ∧ RpL G F' H' as xs ∧ Ra B F' env' σ H' b y) ma B F env := by
  obtain ⟨Qd, Ed, rel, hm, hq, he⟩ := h
  refine ⟨fun a env' => k a env' Qd Ed, Ed, rel, hm, fun a env' b F' H' hk st rl hr => ?_, he⟩
  refine ⟨F', env', a, ⟨Qd, Ed, rl, hk, fun a2 env2 b2 F2 H2 q2 st2 rl2 r2 => hq a2 env2 b2 F2 H2 q2 (st.trans st2) rl2 r2, fun x env2 cls d F2 H2 q2 st2 rl2 r2 => he x env2 cls d F2 H2 q2 (st.trans st2) rl2 r2⟩, RpL.mono st as xs hx, hr⟩
theorem Pt.imp {m : M α} {Q Q' : β → Hp → Prop} (h : Pt G W Ra σ H Q m B F env) (i : ∀ b H', Q b H' → Q' b H') : Pt G W Ra σ H Q' m B F env := by
  obtain ⟨Qd, Ed, rel, hm, hq, he⟩ := h
  exact ⟨Qd, Ed, rel, hm, fun a env' b F' H' q st rl r => i _ _ (hq a env' b F' H' q st rl r), he⟩
/-- a bool handed on -/
theorem Pt.asb {m : M D} {Q : Bool → Hp → Prop} (h : Pt G W RB σ H Q (bnd m asB) B F env) : Pt G W (RD G) σ H (fun z H' => ∃ c, z = .bl c ∧ Q c H') m B F env := by
  refine (h.bindP (Ra := RD G) (as := []) (xs := []) rfl).imp fun y H' ⟨F', env', d, p, _, r⟩ => ?_
  cases d with
  | bl c => exact ⟨c, r, p.pure rfl⟩
  | _ => exact (Pt.no p).elim
end

theorem Pt.known {G : Gx} {W : WX} {B F : Addr → Prop} {σ : L2.St} {H : Hp} {env : List Slot} {γ δ : Type} {R : (Addr → Prop) → (Addr → Prop) → List Slot → L2.St → Hp → γ → δ → Prop} {Q : δ → Hp → Prop} {q : Bool} {k : Bool → M γ}
    (h : Pt G W R σ H Q (bnd (asB (.bl q)) k) B F env) : Pt G W R σ H Q (k q) B F env := h
theorem Pt.unknown {G : Gx} {W : WX} {B F : Addr → Prop} {σ : L2.St} {H : Hp} {env : List Slot} {α γ δ : Type} {R : (Addr → Prop) → (Addr → Prop) → List Slot → L2.St → Hp → γ → δ → Prop} {Q : δ → Hp → Prop} {k : α → M γ}
    (h : Pt G W R σ H Q (bnd fail k) B F env) : False := by
  obtain ⟨Qd, Ed, rel, hm, hq, he⟩ := h
  exact hm
section
variable {X : Cx} {C : Addr} {W : WX} {a b c : Expr} {es : List Expr} {ma mb mc : M D} {ms : M (List D)} {pos : Pos} {mt mu : M Bool} {rest : List Expr}

/-! ### names, constants -/
def dVar (i : Nat) : M D := fun env Q _ => match env[i]? with
  | some (.im d) => Q d env
  | _ => False
theorem e_var {i : Nat} {e : Expr} (h : PE X e (tVar i)) : PE X e (tD (gx X C) W (dVar i)) := peImp h fun σ H Q ⟨B, F, env, Qd, Ed, rel, hm, hq, he⟩ => by
  unfold dVar at hm
  cases q : env[i]? with
  | none => rw [q] at hm; exact hm.elim
  | some s =>
    rw [q] at hm
    cases s with
    | im d =>
      obtain ⟨v, h1, h2⟩ := rel.sl i _ q
      exact ⟨v, h1, hq d env v F H hm Stp.refl rel h2⟩
    | _ => exact hm.elim
theorem e_int {i : Int} {j p} : PE X (.Constant (.int i) j p) (tD (gx X C) W (ret (.int i))) := peImp pe_int fun σ H Q ⟨B, F, env, h⟩ => h.pure (b := .int i) rfl
theorem e_bl {i : Bool} {j p} : PE X (.Constant (.bool i) j p) (tD (gx X C) W (ret (.bl i))) := peImp pe_bl fun σ H Q ⟨B, F, env, h⟩ => h.pure (b := .bl i) rfl
theorem e_str {i : Str} {j p} : PE X (.Constant (.str i) j p) (tD (gx X C) W (ret (.str i))) := peImp pe_str fun σ H Q ⟨B, F, env, h⟩ => h.pure (b := .str i) rfl
theorem e_non {j p} : PE X (.Constant .none j p) (tD (gx X C) W (ret .non)) := peImp pe_non fun σ H Q ⟨B, F, env, h⟩ => h.pure (b := .non) rfl
/-- a module's constant -/
theorem e_glob {x : Str} {d : D} {v : V} {e : Expr} (h : PE X e (tC v)) (r : ∀ F H, Rp (gx X C) F H d v) : PE X e (tD (gx X C) W (ret d)) := peImp h fun σ H Q ⟨B, F, env, h⟩ => h.pure (b := v) (r F H)

/-! ### operators, comparisons -/
theorem e_op {op : Operator} {r : R2} {k : D → D → M D} (ho : OpR X (binaryOp op) r) (hk : Fits (gx X C) W r k) (ha : PE X a (tD (gx X C) W ma)) (hb : PE X b (tD (gx X C) W mb)) :
    PE X (.BinOp a op b pos) (tD (gx X C) W (do2 ma mb k)) := peImp (pe_op ho ha hb) fun σ H Q h =>
  (lift2 h).imp fun x H1 h1 => h1.imp fun y H2 ⟨B, F, env, d, e, p, r1, r2⟩ => hk p r1 r2
theorem e_add (ha : PE X a (tD (gx X C) W ma)) (hb : PE X b (tD (gx X C) W mb)) : PE X (.BinOp a .Add b pos) (tD (gx X C) W (do2 ma mb addD)) := e_op op_adds fits_add ha hb
theorem e_sub (ha : PE X a (tD (gx X C) W ma)) (hb : PE X b (tD (gx X C) W mb)) : PE X (.BinOp a .Sub b pos) (tD (gx X C) W (do2 ma mb subD)) := e_op op_sub fits_sub ha hb
theorem e_mul (ha : PE X a (tD (gx X C) W ma)) (hb : PE X b (tD (gx X C) W mb)) : PE X (.BinOp a .Mult b pos) (tD (gx X C) W (do2 ma mb mulD)) := e_op op_muls fits_mul ha hb
theorem e_mod (ha : PE X a (tD (gx X C) W ma)) (hb : PE X b (tD (gx X C) W mb)) : PE X (.BinOp a .Mod b pos) (tD (gx X C) W (do2 ma mb modD)) := e_op op_mod fits_mod ha hb
theorem e_fdiv (ha : PE X a (tD (gx X C) W ma)) (hb : PE X b (tD (gx X C) W mb)) : PE X (.BinOp a .FloorDiv b pos) (tD (gx X C) W (do2 ma mb fdivD)) := e_op op_fdiv fits_fdiv ha hb
theorem e_pow (ha : PE X a (tD (gx X C) W ma)) (hb : PE X b (tD (gx X C) W mb)) : PE X (.BinOp a .Pow b pos) (tD (gx X C) W (do2 ma mb powD)) := e_op op_pow fits_pow ha hb
theorem e_cmp {op : CmpOp} {r : R2} {k : D → D → M D} (ho : OpR X (compareOp op) r) (hk : Fits (gx X C) W r k) (ha : PE X a (tD (gx X C) W ma)) (hb : PE X b (tD (gx X C) W mb)) (hm : behindInMarks op b = false) :
    PE X (.Compare a [op] [b] pos) (tD (gx X C) W (do2 ma mb k)) := peImp (pe_cmpR ho ha hb hm) fun σ H Q h =>
  (lift2 h).imp fun x H1 h1 => h1.imp fun y H2 ⟨B, F, env, d, e, p, r1, r2⟩ => hk p r1 r2
theorem t_cmp {op : CmpOp} {r : R2} {k : D → D → M D} (ho : OpR X (compareOp op) r) (hk : Fits (gx X C) W r k) (ha : PE X a (tD (gx X C) W ma)) (hb : PE X b (tD (gx X C) W mb)) (hm : behindInMarks op b = false) :
    PT X (.Compare a [op] [b] pos) (tBl (gx X C) W (do2 ma mb fun x y => bnd (k x y) asB)) := ptImp (pt_cmpR ho ha hb hm) fun σ H Q h =>
  (lift2 h).imp fun x H1 h1 => h1.imp fun y H2 ⟨B, F, env, d, e, p, r1, r2⟩ => hk p.asb r1 r2
/-- a < b < c -/
def chM (k k' : D → D → M D) (ma mb mc : M D) : M D := bnd ma fun a => bnd mb fun b => bnd (k a b) fun z => match z with
  | .bl true => bnd mc fun c => k' b c
  | .bl false => ret (.bl false)
  | _ => fail
theorem e_chain {op op' : CmpOp} {r r' : R2} {k k' : D → D → M D} (ho : OpR X (compareOp op) r) (ho' : OpR X (compareOp op') r') (hk : Fits (gx X C) W r k) (hk' : Fits (gx X C) W r' k')
    (ha : PE X a (tD (gx X C) W ma)) (hb : PE X b (tD (gx X C) W mb)) (hc : PE X c (tD (gx X C) W mc)) (hm : lastMarks [op, op'] [b, c] = false := by with_unfolding_all rfl) :
    PE X (.Compare a [op, op'] [b, c] pos) (tD (gx X C) W (chM k k' ma mb mc)) := peImp (pe_chain ho ho' ha hb hc hm) fun σ H Q h =>
  (lift2 (k := fun a b => bnd (k a b) fun z => match z with
    | .bl true => bnd mc fun c => k' b c
    | .bl false => ret (.bl false)
    | _ => fail) h).imp fun x H1 h1 => h1.imp fun y H2 ⟨B, F, env, d, e, p, r1, r2⟩ => by
    refine hk ((p.bindP (Ra := RD (gx X C)) (as := [e]) (xs := [y]) ⟨y, [], rfl, r2, rfl⟩).imp fun z H3 ⟨F3, env3, g, p3, ⟨y', rr, ee, re, _⟩, rz⟩ => ?_) r1 r2
    cases ee
    cases g with
    | bl q =>
      refine ⟨q, rz, ?_⟩
      cases q with
      | true =>
        rw [if_pos rfl]
        refine (p3.bind (Ra := RD (gx X C)) (as := [e]) (xs := [y]) ⟨y, [], rfl, re, rfl⟩).imp fun w' H4 ⟨F4, env4, u, p4, ⟨y', rr, ee, re, _⟩, ru⟩ => ?_
        cases ee
        exact hk' p4 re ru
      | false =>
        rw [if_neg Bool.false_ne_true]
        exact p3.pure (b := .bl false) rfl
    | _ => exact (Pt.no p3).elim
theorem t_chain {op op' : CmpOp} {r r' : R2} {k k' : D → D → M D} (ho : OpR X (compareOp op) r) (ho' : OpR X (compareOp op') r') (hk : Fits (gx X C) W r k) (hk' : Fits (gx X C) W r' k')
    (ha : PE X a (tD (gx X C) W ma)) (hb : PE X b (tD (gx X C) W mb)) (hc : PE X c (tD (gx X C) W mc)) (hm : lastMarks [op, op'] [b, c] = false := by with_unfolding_all rfl) :
    PT X (.Compare a [op, op'] [b, c] pos) (tBl (gx X C) W (bnd (chM k k' ma mb mc) asB)) := ptImp (pt_chain ho ho' ha hb hc hm) fun σ H Q h => by
  obtain ⟨B, F, env, h⟩ := h
  have h : Lift (gx X C) W (RD (gx X C)) (chM k k' ma mb mc) σ H (fun z H' => ∃ c, z = .bl c ∧ Q c H') := ⟨B, F, env, h.asb⟩
  exact (lift2 (k := fun a b => bnd (k a b) fun z => match z with
    | .bl true => bnd mc fun c => k' b c
    | .bl false => ret (.bl false)
    | _ => fail) h).imp fun x H1 h1 => h1.imp fun y H2 ⟨B, F, env, d, e, p, r1, r2⟩ => by
    refine hk ((p.bindP (Ra := RD (gx X C)) (as := [e]) (xs := [y]) ⟨y, [], rfl, r2, rfl⟩).imp fun z H3 ⟨F3, env3, g, p3, ⟨y', rr, ee, re, _⟩, rz⟩ => ?_) r1 r2
    cases ee
    cases g with
    | bl q =>
      refine ⟨q, rz, ?_⟩
      cases q with
      | true =>
        rw [if_pos rfl]
        refine (p3.bind (Ra := RD (gx X C)) (as := [e]) (xs := [y]) ⟨y, [], rfl, re, rfl⟩).imp fun w' H4 ⟨F4, env4, u, p4, ⟨y', rr, ee, re, _⟩, ru⟩ => ?_
        cases ee
        exact hk' p4 re ru
      | false =>
        rw [if_neg Bool.false_ne_true]
        exact p3.pure (b := .bl false) rfl
    | _ => exact (Pt.no p3).elim

/-! ### truth, and, or, not -/
def truD : D → M Bool
  | .non => ret false
  | .bl b => ret b
  | .int i => ret (i != 0)
  | .str s => ask (s.length ≤ sizeLine) (ret ((s.length : Int) != 0))
  | .tup ds => ret (!ds.isEmpty)
  | .lst ds => ret (!ds.isEmpty)
  | .scr ns => ret (!ns.isEmpty)
  | _ => fail
theorem isEmpty_rp {G : Gx} {F : Addr → Prop} {H : Hp} {ds : List D} {vs : List V} (h : RpL G F H ds vs) : vs.isEmpty = ds.isEmpty := by
  cases ds with
  | nil => cases (show _ = _ from h); rfl
  | cons d ds => obtain ⟨v, r, e, _⟩ := h; subst e; rfl
theorem t_tru (ha : PE X a (tD (gx X C) W ma)) (he : ∀ whole, isTrue a X.env whole = (do let v ← whole; standAt a.pos; holding [v] (truthy v)) := by intro _; rfl) : PT X a (tBl (gx X C) W (bnd ma truD)) :=
  ptImp (pt_truth ha he) fun σ H Q h => (lift1 (Ra := RD (gx X C)) h).imp fun x H1 ⟨B, F, env, d, p, r⟩ => by
    cases d with
    | non => cases (show _ = _ from r); exact ⟨false, rfl, p.pure rfl⟩
    | bl q => cases (show _ = _ from r); exact ⟨q, rfl, p.pure rfl⟩
    | int i => cases (show _ = _ from r); exact ⟨_, rfl, p.pure rfl⟩
    | str s => cases (show _ = _ from r); exact ⟨_, ⟨(Pt.asked p).1, rfl⟩, (Pt.asked p).2.pure rfl⟩
    | byt _ => exact (Pt.no p).elim
    | hall _ _ => exact (Pt.no p).elim
    | emp => exact (Pt.no p).elim
    | exn _ _ _ => exact (Pt.no p).elim
    | pr _ => exact (Pt.no p).elim
    | tup ds => obtain ⟨q, vs, e, h1, h2⟩ := r; subst e; exact ⟨_, .inr (.inl ⟨vs, .inl h1.rd, rfl⟩), p.pure (by rw [isEmpty_rp h2]; rfl)⟩
    | lst ds => obtain ⟨q, vs, e, _, h1, h2⟩ := r; subst e; exact ⟨_, .inl ⟨vs, SqL.of h1, rfl⟩, p.pure (by rw [isEmpty_rp h2]; rfl)⟩
    | scr ns => obtain ⟨q, e, h1⟩ := scrSq r; subst e; exact ⟨_, .inl ⟨_, h1, rfl⟩, p.pure (by rw [List.isEmpty_map]; rfl)⟩
def andB (t u : M Bool) : M Bool := bnd t fun c => if c = true then u else ret false
def orB (t u : M Bool) : M Bool := bnd t fun c => if c = true then ret true else u
def notB (t : M Bool) : M Bool := bnd t fun c => ret (!c)
theorem w_and1 (ha : PT X a (tBl (gx X C) W mt)) : PW X (.BoolOp .And [a] pos) (tBl (gx X C) W mt) := pw_and1 ha
theorem w_or1 (ha : PT X a (tBl (gx X C) W mt)) : PW X (.BoolOp .Or [a] pos) (tBl (gx X C) W mt) := pw_or1 ha
theorem pwImp {X : Cx} {e : Expr} {t t' : TT} (h : PW X e t) (i : ∀ σ H Q, t' σ H Q → t σ H Q) : PW X e t' := ⟨fun wh pins s σ H Q I q => h.run wh pins s σ H Q I (i σ H Q q)⟩
theorem w_and (ha : PT X a (tBl (gx X C) W mt)) (hb : PW X (.BoolOp .And (b :: rest) pos) (tBl (gx X C) W mu)) : PW X (.BoolOp .And (a :: b :: rest) pos) (tBl (gx X C) W (andB mt mu)) :=
  pwImp (pw_and ha hb) fun σ H Q h => (lift1 (Ra := RB) h).imp fun q H1 ⟨B, F, env, d, p, r⟩ => by
    cases (show d = q from r)
    cases q with
    | true => rw [if_pos rfl] at p ⊢; exact p.lift
    | false => rw [if_neg Bool.false_ne_true] at p ⊢; exact p.pure rfl
theorem w_or (ha : PT X a (tBl (gx X C) W mt)) (hb : PW X (.BoolOp .Or (b :: rest) pos) (tBl (gx X C) W mu)) : PW X (.BoolOp .Or (a :: b :: rest) pos) (tBl (gx X C) W (orB mt mu)) :=
  pwImp (pw_or ha hb) fun σ H Q h => (lift1 (Ra := RB) h).imp fun q H1 ⟨B, F, env, d, p, r⟩ => by
    cases (show d = q from r)
    cases q with
    | true => rw [if_pos rfl] at p ⊢; exact p.pure rfl
    | false => rw [if_neg Bool.false_ne_true] at p ⊢; exact p.lift
theorem t_not (ha : PT X a (tBl (gx X C) W mt)) : PT X (.UnaryOp .Not a pos) (tBl (gx X C) W (notB mt)) :=
  ptImp (pt_not ha) fun σ H Q h => (lift1 (Ra := RB) h).imp fun q H1 ⟨B, F, env, d, p, r⟩ => by
    cases (show d = q from r)
    exact p.pure rfl
def andV (ma mb : M D) : M D := bnd ma fun a => bnd (asB a) fun c => if c = true then mb else ret (.bl false)
def orV (ma mb : M D) : M D := bnd ma fun a => bnd (asB a) fun c => if c = true then ret (.bl true) else mb
def notV (ma : M D) : M D := bnd ma fun a => bnd (asB a) fun c => ret (.bl (!c))
theorem e_one {op} (h : PE X a (tD (gx X C) W ma)) : PE X (.BoolOp op [a] pos) (tD (gx X C) W ma) := pe_one h
theorem e_and (ha : PE X a (tD (gx X C) W ma)) (hb : PE X (.BoolOp .And (b :: rest) pos) (tD (gx X C) W mb)) : PE X (.BoolOp .And (a :: b :: rest) pos) (tD (gx X C) W (andV ma mb)) :=
  peImp (pe_and ha hb) fun σ H Q h => (lift1 (Ra := RD (gx X C)) h).imp fun x H1 ⟨B, F, env, d, p, r⟩ => by
    cases d with
    | bl q =>
      refine ⟨q, r, ?_⟩
      have p := p.known
      cases q with
      | true => rw [if_pos rfl] at p ⊢; exact p.lift
      | false => rw [if_neg Bool.false_ne_true] at p ⊢; exact p.pure (b := .bl false) rfl
    | _ => exact (Pt.unknown p).elim
theorem e_or (ha : PE X a (tD (gx X C) W ma)) (hb : PE X (.BoolOp .Or (b :: rest) pos) (tD (gx X C) W mb)) : PE X (.BoolOp .Or (a :: b :: rest) pos) (tD (gx X C) W (orV ma mb)) :=
  peImp (pe_or ha hb) fun σ H Q h => (lift1 (Ra := RD (gx X C)) h).imp fun x H1 ⟨B, F, env, d, p, r⟩ => by
    cases d with
    | bl q =>
      refine ⟨q, r, ?_⟩
      have p := p.known
      cases q with
      | false => rw [if_neg Bool.false_ne_true] at p ⊢; exact p.lift
      | true => rw [if_pos rfl] at p ⊢; exact p.pure (b := .bl true) rfl
    | _ => exact (Pt.unknown p).elim
theorem e_not (ha : PE X a (tD (gx X C) W ma)) : PE X (.UnaryOp .Not a pos) (tD (gx X C) W (notV ma)) :=
  peImp (pe_not ha) fun σ H Q h => (lift1 (Ra := RD (gx X C)) h).imp fun x H1 ⟨B, F, env, d, p, r⟩ => by
    cases d with
    | bl q => exact ⟨q, r, p.known.pure (b := .bl !q) rfl⟩
    | _ => exact (Pt.unknown p).elim
def ifM {γ : Type} (t : M Bool) (u v : M γ) : M γ := bnd t fun c => if c = true then u else v
theorem e_ife (hc : PT X c (tBl (gx X C) W mt)) (ha : PE X a (tD (gx X C) W ma)) (hb : PE X b (tD (gx X C) W mb)) : PE X (.IfExp c a b pos) (tD (gx X C) W (ifM mt ma mb)) :=
  peImp (pe_ifExp hc ha hb) fun σ H Q h => (lift1 (Ra := RB) h).imp fun q H1 ⟨B, F, env, d, p, r⟩ => by
    cases (show d = q from r)
    cases q with
    | true => rw [if_pos rfl] at p ⊢; exact p.lift
    | false => rw [if_neg Bool.false_ne_true] at p ⊢; exact p.lift

/-! ### arguments, displays -/
def consM (m : M D) (ms : M (List D)) : M (List D) := bnd m fun d => bnd ms fun ds => ret (d :: ds)
theorem a_nil : PA X [] (tDs (gx X C) W (ret [])) := paImp pa_nil fun σ H Q ⟨B, F, env, h⟩ => h.pure rfl
theorem a_cons (ha : PE X a (tD (gx X C) W ma)) (hr : PA X es (tDs (gx X C) W ms)) (hs : starEach (a :: es) X.env = (false, eval a X.env) :: starEach es X.env := by rfl) : PA X (a :: es) (tDs (gx X C) W (consM ma ms)) :=
  paImp (pa_cons ha hr hs) fun σ H Q h => (lift1 (Ra := RD (gx X C)) h).imp fun x H1 ⟨B, F, env, d, p, r⟩ =>
    (p.bind (Ra := RDs (gx X C)) (as := [d]) (xs := [x]) ⟨x, [], rfl, r, rfl⟩).imp fun xs H2 ⟨F2, env2, ds, p2, ⟨x', r', e, rd, _⟩, rs⟩ => by
      cases e
      exact p2.pure ⟨x, xs, rfl, rd, rs⟩
def tupM (ms : M (List D)) : M D := bnd ms fun ds => ask (ds.length ≤ sizeLine) (ret (.tup ds))
def lstM (ms : M (List D)) : M D := bnd ms fun ds => ask (ds.length ≤ sizeLine) (ret (.lst ds))
def olstM (ms : M (List D)) : M O := bnd ms fun ds => ask (ds.length ≤ sizeLine) (ret (.lst ds))
theorem e_tup {x1} (h : PA X es (tDs (gx X C) W ms)) : PE X (.Tuple es x1 pos) (tD (gx X C) W (tupM ms)) :=
  peImp (DLt.pf_tup h) fun σ H Q h => (lift1 (Ra := RDs (gx X C)) h).imp fun xs H1 ⟨B, F, env, ds, p, r⟩ => ⟨by rw [← RpL.length r]; exact p.asked.1, p.asked.2.tup r⟩
theorem e_lst (h : PA X es (tDs (gx X C) W ms)) : PE X (.List es pos) (tD (gx X C) W (lstM ms)) :=
  peImp (pe_lst h) fun σ H Q h => (lift1 (Ra := RDs (gx X C)) h).imp fun xs H1 ⟨B, F, env, ds, p, r⟩ => ⟨by rw [← RpL.length r]; exact p.asked.1, fun q hq => p.asked.2.lst r hq⟩
theorem o_lst (h : PA X es (tDs (gx X C) W ms)) : PE X (.List es pos) (tO (gx X C) W (olstM ms)) :=
  peImp (pe_lst h) fun σ H Q h => (lift1 (Ra := RDs (gx X C)) h).imp fun xs H1 ⟨B, F, env, ds, p, r⟩ => ⟨by rw [← RpL.length r]; exact p.asked.1, fun q hq => p.asked.2.olst r hq⟩

/-! ### subscripts -/
theorem e_ix (ha : PE X a (tD (gx X C) W ma)) (hb : PE X b (tD (gx X C) W mb)) (hs : PlainIx b := by exact fun _ _ => rfl) : PE X (.Subscript a b pos) (tD (gx X C) W (do2 ma mb ixM)) :=
  peImp (pe_ix ix_seq ha hb hs) fun σ H Q h => (lift2 h).imp fun x H1 h1 => h1.imp fun y H2 ⟨B, F, env, d, e, p, r1, r2⟩ => fits_ix p r1 r2
def cutL {α : Type} (xs : List α) (lo hi : Option Int) : List α := (xs.drop (HT.sIx xs.length 0 lo)).take (HT.sIx xs.length xs.length hi - HT.sIx xs.length 0 lo)
def slM (d : D) (lo hi : Option Int) : M D := match d with
  | .tup ds => ret (.tup (cutL ds lo hi))
  | .lst ds => ret (.lst (cutL ds lo hi))
  | .scr ns => ret (.lst ((cutL ns lo hi).map .int))
  | .str s => ask (s.length ≤ sizeLine) (ret (.str (cutS s lo hi)))
  | _ => fail
def partM (m : M D) : M (Option Int) := bnd m fun d => match d with
  | .int i => ret (some i)
  | _ => fail
theorem poImp {X : Cx} {e : Option Expr} {t t' : TO} (h : PO X e t) (i : ∀ σ H Q, t' σ H Q → t σ H Q) : PO X e t' := ⟨fun pins s σ H Q I q => h.run pins s σ H Q I (i σ H Q q)⟩
theorem p_none : PO X none (tQ (gx X C) W (ret none)) := poImp po_none fun σ H Q ⟨B, F, env, h⟩ => h.pure rfl
theorem p_some (ha : PE X a (tD (gx X C) W ma)) : PO X (some a) (tQ (gx X C) W (partM ma)) := poImp (po_some ha) fun σ H Q h => (lift1 (Ra := RD (gx X C)) h).imp fun x H1 ⟨B, F, env, d, p, r⟩ => by
  cases d with
  | int i => exact ⟨i, r, p.pure rfl⟩
  | _ => exact (Pt.no p).elim
theorem cutV_rp {G : Gx} {F : Addr → Prop} {H : Hp} {ds : List D} {vs : List V} (h : RpL G F H ds vs) (lo hi : Option Int) : RpL G F H (cutL ds lo hi) (cutV vs lo hi) := by
  unfold cutL cutV
  rw [h.length]
  exact (h.drop _).take _
theorem cut_all {α : Type} {xs : List α} {lo hi : Option Int} (h : HT.sIx xs.length 0 lo = 0 ∧ HT.sIx xs.length xs.length hi = xs.length) : cutL xs lo hi = xs := by
  unfold cutL
  rw [h.1, h.2]
  simp
abbrev rSls (K : PySem.W.Frag) : V → Option Int → Option Int → Hp → VK → Prop := fun x lo hi H Q => DLt.fCut K x lo hi H Q ∨ (rSlL K x lo hi H Q ∨ rSlS x lo hi H Q)
theorem e_sl {lo hi : Option Expr} {mlo mhi : M (Option Int)} {p2 : Pos} (ha : PE X a (tD (gx X C) W ma)) (hl : PO X lo (tQ (gx X C) W mlo)) (hh : PO X hi (tQ (gx X C) W mhi)) :
    PE X (.Subscript a (.Slice lo hi none p2) pos) (tD (gx X C) W (bnd ma fun d => bnd mlo fun l => bnd mhi fun h => slM d l h)) :=
  peImp (pe_slice (r := rSls X.K) (DLt.sl_tupF.or (sl_list.or sl_str)) ha hl hh) fun σ H Q h => (lift1 (Ra := RD (gx X C)) h).imp fun x H1 ⟨B, F, env, d, p, r⟩ =>
    (p.bind (Ra := RQ) (as := [d]) (xs := [x]) ⟨x, [], rfl, r, rfl⟩).imp fun l H2 ⟨F2, env2, l', p2, rd, e⟩ => by
      cases (show l' = l from e)
      refine (p2.bind (Ra := RQ) (as := [d]) (xs := [x]) rd).imp fun u H3 ⟨F3, env3, u', p3, ⟨x', r', e', rd, _⟩, e⟩ => ?_
      cases (show u' = u from e)
      cases e'
      cases d with
      | tup ds =>
        obtain ⟨q, vs, e, h1, h2⟩ := id rd
        subst e
        refine .inl ⟨q, vs, rfl, .inl h1.rd, fun z => ?_, Pt.tup (ds := cutL ds l u) p3 (cutV_rp h2 l u)⟩
        rw [← h2.length] at z
        exact Pt.pure (c := D.tup (cutL ds l u)) p3 (by rw [cut_all z]; exact rd)
      | lst ds =>
        obtain ⟨q, vs, e, _, h1, h2⟩ := rd
        subst e
        exact .inr (.inl ⟨q, vs, rfl, SqL.of h1, fun o ho => Pt.lst (ds := cutL ds l u) p3 (cutV_rp h2 l u) ho⟩)
      | scr ns =>
        obtain ⟨q, e, h1⟩ := scrSq rd
        subst e
        refine .inr (.inl ⟨q, _, rfl, h1, fun o ho => Pt.lst (ds := (cutL ns l u).map .int) p3 (RpL.ints.mpr ?_) ho⟩)
        unfold cutL cutV
        rw [List.length_map, List.map_take, List.map_drop]
      | str s => exact .inr (.inr ⟨s, rd, (Pt.asked p3).1, (Pt.asked p3).2.pure (b := .str _) rfl⟩)
      | _ => exact (Pt.no p3).elim
end
end DL

set_option Elab.async false
set_option linter.all false
set_option maxRecDepth 100000
set_option maxHeartbeats 2000000
namespace DL
open PySem PySem.Spec PyProof.Rows L2
variable [Tbs]

/-- what a def hands back -/
inductive Res where
  | d (d : D) | o (o : O)
inductive Fl where
  | nx | bk | ct | rt (r : Res)
def ResR (G : Gx) (B F : Addr → Prop) (env : List Slot) (σ : L2.St) (H : Hp) : Res → V → Prop
  | .d d, v => Rp G F H d v
  | .o o, v => ∃ a, v = .ref a ∧ ¬ F a ∧ ¬ B a ∧ OwAt G F H a o ∧ ∀ (i : Nat) b p, env[i]? = some (.io b p) → b ≠ a

/-- a statement's reading -/
def Ps (G : Gx) (W : WX) (ms : M Fl) (D : Ends) (σ : L2.St) (H : Hp) (B F : Addr → Prop) (env : List Slot) : Prop :=
  ∃ Qd Ed, Rel G B F σ env H ∧ ms env Qd Ed ∧
    (∀ env' σ' F' H', Qd .nx env' → Stp B F H F' H' → Rel G B F' σ' env' H' → D.nx σ' H') ∧
    (∀ env' σ' F' H', Qd .bk env' → Stp B F H F' H' → Rel G B F' σ' env' H' → D.bk σ' H') ∧
    (∀ env' σ' F' H', Qd .ct env' → Stp B F H F' H' → Rel G B F' σ' env' H' → D.ct σ' H') ∧
    (∀ r env' σ' F' H' v, Qd (.rt r) env' → Stp B F H F' H' → Rel G B F' σ' env' H' → ResR G B F' env' σ' H' r v → D.rt v H') ∧
    (∀ x env' σ' cls d F' H', Ed x env' → Stp B F H F' H' → Rel G B F' σ' env' H' → ExnR G F' H' x cls d → W cls d σ' H')
def tS (G : Gx) (W : WX) (ms : M Fl) : TS := fun D σ H => ∃ B F env, Ps G W ms D σ H B F env
/-- a target's reading -/
def tT (G : Gx) (k : D → M Unit) : TG := fun x σ H Q => ∃ (B F : Addr → Prop) (env : List Slot) (d : D) (Qd : List Slot → Prop), Rel G B F σ env H ∧ Rp G F H d x ∧ k d env (fun _ env' => Qd env') (fun _ _ => False) ∧
  ∀ env' σ' F' H', Qd env' → Stp B F H F' H' → Rel G B F' σ' env' H' → (∀ a o, H a = some o → H' a = some o) → Q σ' H'
def seqK (k : M Fl) : Fl → M Fl
  | .nx => k
  | .bk => ret .bk
  | .ct => ret .ct
  | .rt r => ret (.rt r)
def seqM (m k : M Fl) : M Fl := bnd m (seqK k)
def setI (i : Nat) (d : D) : M Unit := fun env Q _ => match env[i]? with
  | some (.io _ _) => False
  | some _ => Q () (env.set i (.im d))
  | none => False
def setO (i : Nat) (o : O) : M Unit := fun env Q _ => match env[i]? with
  | some (.io _ _) => False
  | some _ => Q () (env.set i (.ow o))
  | none => False
def thenN {α : Type} (m : M α) : M Fl := bnd m fun _ => ret .nx
/-- what the owned object in slot i holds -/
def getO (i : Nat) : M O := fun env Q _ => match env[i]? with
  | some (.ow o) => Q o env
  | some (.io _ o) => Q o env
  | _ => False
def putO (i : Nat) (o : O) : M Unit := fun env Q _ => match env[i]? with
  | some (.ow _) => Q () (env.set i (.ow o))
  | some (.io a _) => Q () (env.set i (.io a o))
  | _ => False

section
variable {G : Gx} {W : WX} {B F : Addr → Prop} {σ : L2.St} {H : Hp} {env : List Slot} {α β γ δ : Type}

theorem ownAt_set {s : Slot} {i : Nat} {x : Option V} {j : Nat} {a : Addr} (hl : env.length = σ.length) (h : OwnAt (env.set i s) (σ.set i x) j a) : (j = i ∧ s.own = true ∧ x = some (.ref a)) ∨ (j ≠ i ∧ OwnAt env σ j a) := by
  obtain ⟨⟨t, h1, h2⟩, h3⟩ := h
  by_cases e : j = i
  · subst e
    have hj : j < env.length := by
      have := (List.getElem?_eq_some_iff.mp h1).1
      rw [List.length_set] at this; exact this
    rw [List.getElem?_set_self hj] at h1
    rw [List.getElem?_set_self (by omega)] at h3
    cases h1
    exact .inl ⟨rfl, h2, Option.some.inj h3⟩
  · rw [List.getElem?_set_ne (Ne.symm e)] at h1 h3
    exact .inr ⟨e, ⟨t, h1, h2⟩, h3⟩
/-- slot i gets a datum -/
theorem Rel.setI (rel : Rel G B F σ env H) {i : Nat} {d : D} {v : V} (r : Rp G F H d v) : Rel G B F (σ.set i (some v)) (env.set i (.im d)) H := by
  refine ⟨by rw [List.length_set, List.length_set]; exact rel.len, fun j s e => ?_, fun j k a h1 h2 => ?_, rel.hB, rel.hF, rel.tb⟩
  · by_cases hj : j = i
    · subst hj
      have hlt : j < env.length := by
        have := (List.getElem?_eq_some_iff.mp e).1
        rw [List.length_set] at this; exact this
      rw [List.getElem?_set_self hlt] at e
      cases e
      rw [List.getElem?_set_self (by rw [← rel.len]; exact hlt)]
      exact ⟨v, rfl, r⟩
    · rw [List.getElem?_set_ne (Ne.symm hj)] at e ⊢
      exact rel.sl j s e
  · rcases ownAt_set rel.len h1 with ⟨_, z, _⟩ | ⟨_, h1⟩
    · cases z
    · rcases ownAt_set rel.len h2 with ⟨_, z, _⟩ | ⟨_, h2⟩
      · cases z
      · exact rel.ap j k a h1 h2
/-- slot i gets a new object -/
theorem Rel.setO (rel : Rel G B F σ env H) {i : Nat} {o : O} {a : Addr} (hF : ¬ F a) (hB : ¬ B a) (ho : OwAt G F H a o) (hn : ∀ j, ¬ OwnAt env σ j a) : Rel G B F (σ.set i (some (.ref a))) (env.set i (.ow o)) H := by
  refine ⟨by rw [List.length_set, List.length_set]; exact rel.len, fun j s e => ?_, fun j k b h1 h2 => ?_, rel.hB, rel.hF, rel.tb⟩
  · by_cases hj : j = i
    · subst hj
      have hlt : j < env.length := by
        have := (List.getElem?_eq_some_iff.mp e).1
        rw [List.length_set] at this; exact this
      rw [List.getElem?_set_self hlt] at e
      cases e
      rw [List.getElem?_set_self (by rw [← rel.len]; exact hlt)]
      exact ⟨a, rfl, hF, hB, ho⟩
    · rw [List.getElem?_set_ne (Ne.symm hj)] at e ⊢
      exact rel.sl j s e
  · rcases ownAt_set rel.len h1 with ⟨e1, _, z⟩ | ⟨n1, h1⟩
    · rcases ownAt_set rel.len h2 with ⟨e2, _, z'⟩ | ⟨_, h2⟩
      · rw [e1, e2]
      · cases Option.some.inj z
        exact (hn k h2).elim
    · rcases ownAt_set rel.len h2 with ⟨_, _, z⟩ | ⟨_, h2⟩
      · cases Option.some.inj z
        exact (hn j h1).elim
      · exact rel.ap j k b h1 h2
/-- a slot is forgotten -/
theorem Rel.drop (rel : Rel G B F σ env H) (i : Nat) (x : Option V) : Rel G B F (σ.set i x) (env.set i .no) H := by
  refine ⟨by rw [List.length_set, List.length_set]; exact rel.len, fun j s e => ?_, fun j k a h1 h2 => ?_, rel.hB, rel.hF, rel.tb⟩
  · by_cases hj : j = i
    · subst hj
      have hlt : j < env.length := by
        have := (List.getElem?_eq_some_iff.mp e).1
        rw [List.length_set] at this; exact this
      rw [List.getElem?_set_self hlt] at e
      cases e
      trivial
    · rw [List.getElem?_set_ne (Ne.symm hj)] at e ⊢
      exact rel.sl j s e
  · rcases ownAt_set rel.len h1 with ⟨_, z, _⟩ | ⟨_, h1⟩
    · cases z
    · rcases ownAt_set rel.len h2 with ⟨_, z, _⟩ | ⟨_, h2⟩
      · cases z
      · exact rel.ap j k a h1 h2
/-- the owned object in slot i: where it stands -/
theorem Rel.owned (rel : Rel G B F σ env H) {i : Nat} {o : O} (h : env[i]? = some (.ow o) ∨ ∃ b, env[i]? = some (.io b o)) : ∃ a, σ[i]? = some (some (.ref a)) ∧ ¬ F a ∧ ¬ B a ∧ OwAt G F H a o ∧ OwnAt env σ i a := by
  rcases h with h | ⟨b, h⟩
  · obtain ⟨a, h1, h2, h3, h4⟩ := rel.sl i _ h
    exact ⟨a, h1, h2, h3, h4, ⟨_, h, rfl⟩, h1⟩
  · obtain ⟨h1, h2, h3, h4⟩ := rel.sl i _ h
    exact ⟨b, h1, h2, h3, h4, ⟨_, h, rfl⟩, h1⟩
/-- the owned object at a is written: a tracked tuple, the frozen, the others' objects stay -/
theorem stp_own {a : Addr} {u : HO} (hF : ¬ F a) (hB : ¬ B a) (ht : ∀ vs, ¬ Rd H a (.tup vs)) (nt : ∀ ps, H a ≠ some (.tbl ps)) (nc : ∀ q, H a ≠ some (LamX.CodeO a q)) : Stp B F H F (upd H a u) where
  tb := fun t => t.own nt nc
  fm := fun _ h => h
  fn := fun _ h => .inl h
  hk0 := fun b o h e _ => by rw [upd_ne fun z => by subst z; exact h.elim hB hF]; exact e
  ht := fun b vs h => by
    have ne : b ≠ a := fun z => by subst z; exact ht vs h
    exact h.imp (fun q => by rw [upd_ne ne]; exact q) fun ⟨o, q⟩ => ⟨o, by rw [upd_ne ne]; exact q⟩
theorem OwAt.notup {a : Addr} : ∀ {o : O}, OwAt G F H a o → ∀ vs, ¬ Rd H a (.tup vs)
  | .lst ds, ⟨us, h1, _⟩, vs, h => by rcases h with h | ⟨o, h⟩ <;> (rw [h1] at h; cases h)
  | .set S n, h1, vs, h => by rcases h with h | ⟨o, h⟩ <;> (rw [show H a = _ from h1] at h; cases h)
  | .dic kvs, ⟨us, h1, _⟩, vs, h => by rcases h with h | ⟨o, h⟩ <;> (rw [h1] at h; cases h)
  | .ins C fs, ⟨dx, us, h1, _⟩, vs, h => by rcases h with h | ⟨o, h⟩ <;> (rw [h1] at h; cases h)
def putS (env : List Slot) (i : Nat) (o : O) : List Slot := match env[i]? with
  | some (.ow _) => env.set i (.ow o)
  | some (.io a _) => env.set i (.io a o)
  | _ => env
theorem Rel.put (rel : Rel G B F σ env H) {i : Nat} {o o' : O} {a : Addr} {u : HO} (h : OwnAt env σ i a) (hw : OwAt G F H a o) (hu : OwAt G F (upd H a u) a o') :
    Stp B F H F (upd H a u) ∧ Rel G B F σ (putS env i o') (upd H a u) := by
  obtain ⟨hs, hF, hB⟩ := rel.ownSome h
  have st : Stp B F H F (upd H a u) := stp_own hF hB hw.notup hw.noTab hw.noCode
  refine ⟨st, ?_⟩
  have hlt : i < env.length := by obtain ⟨⟨s, e, _⟩, _⟩ := h; exact (List.getElem?_eq_some_iff.mp e).1
  have other : ∀ j s, j ≠ i → env[j]? = some s → SlotR G B F (upd H a u) σ[j]? s := fun j s ne e => by
    have q := rel.sl j s e
    cases s with
    | no => trivial
    | im d => obtain ⟨v, h1, h2⟩ := q; exact ⟨v, h1, Rp.mono st d v h2⟩
    | ow p =>
      obtain ⟨b, h1, h2, h3, h4⟩ := q
      have nb : b ≠ a := fun z => by subst z; exact ne (rel.ap j i b ⟨⟨_, e, rfl⟩, h1⟩ h)
      exact ⟨b, h1, h2, h3, OwAt.mono st (upd_ne nb) h4⟩
    | io b p =>
      obtain ⟨h1, h2, h3, h4⟩ := q
      have nb : b ≠ a := fun z => by subst z; exact ne (rel.ap j i b ⟨⟨_, e, rfl⟩, h1⟩ h)
      exact ⟨h1, h2, h3, OwAt.mono st (upd_ne nb) h4⟩
  obtain ⟨⟨s, e, k⟩, hσ⟩ := id h
  have fin : ∀ s' : Slot, s'.own = true → SlotR G B F (upd H a u) σ[i]? s' → Rel G B F σ (env.set i s') (upd H a u) := fun s' k' r => by
    refine ⟨by rw [List.length_set]; exact rel.len, fun j t e' => ?_, fun j l b h1 h2 => ?_, fun b z => st.hs b (.inl z) (rel.hB b z), fun b z => st.hs b (.inr z) (rel.hF b z), st.tb rel.tb⟩
    · by_cases hj : j = i
      · subst hj
        rw [List.getElem?_set_self hlt] at e'
        cases e'
        exact r
      · rw [List.getElem?_set_ne (Ne.symm hj)] at e'
        exact other j t hj e'
    · have back : ∀ m, OwnAt (env.set i s') σ m b → OwnAt env σ m b := fun m ⟨⟨t, e1, k1⟩, e2⟩ => by
        by_cases hm : m = i
        · subst hm
          exact ⟨⟨s, e, k⟩, e2⟩
        · rw [List.getElem?_set_ne (Ne.symm hm)] at e1
          exact ⟨⟨t, e1, k1⟩, e2⟩
      exact rel.ap j l b (back j h1) (back l h2)
  unfold putS
  rw [e]
  cases s with
  | ow p => exact fin (.ow o') rfl ⟨a, hσ, hF, hB, hu⟩
  | io b p =>
    have z : σ[i]? = some (some (.ref b)) := (rel.sl i _ e).1
    rw [hσ] at z
    cases z
    exact fin (.io a o') rfl ⟨hσ, hF, hB, hu⟩
  | no => cases k
  | im d => cases k

/-! ### statements in a row -/
theorem Ps.seq {m k : M Fl} {D : Ends} {u : TS} (h : Ps G W (seqM m k) D σ H B F env) (hu : ∀ σ' H', tS G W k D σ' H' → u D σ' H') : Ps G W m { D with nx := u D } σ H B F env := by
  obtain ⟨Qd, Ed, rel, hm, h1, h2, h3, h4, h5⟩ := h
  refine ⟨fun f env' => seqK k f env' Qd Ed, Ed, rel, hm, fun env' σ' F' H' q st rl => hu σ' H' ⟨B, F', env', Qd, Ed, rl, q, ?_, ?_, ?_, ?_, ?_⟩, h2, h3, h4, h5⟩
  · exact fun e2 s2 F2 H2 q2 st2 rl2 => h1 e2 s2 F2 H2 q2 (st.trans st2) rl2
  · exact fun e2 s2 F2 H2 q2 st2 rl2 => h2 e2 s2 F2 H2 q2 (st.trans st2) rl2
  · exact fun e2 s2 F2 H2 q2 st2 rl2 => h3 e2 s2 F2 H2 q2 (st.trans st2) rl2
  · exact fun r e2 s2 F2 H2 v q2 st2 rl2 => h4 r e2 s2 F2 H2 v q2 (st.trans st2) rl2
  · exact fun x e2 s2 c d F2 H2 q2 st2 rl2 => h5 x e2 s2 c d F2 H2 q2 (st.trans st2) rl2
/-- an expression ahead of the rest of a statement -/
theorem Ps.bind {ma : M α} {k : α → M Fl} {Ra : (Addr → Prop) → (Addr → Prop) → List Slot → L2.St → Hp → α → β → Prop} {Z : Ends} {as : List D} {xs : List V} (h : Ps G W (bnd ma k) Z σ H B F env) :
    Lift G W Ra ma σ H (fun y H' => ∃ F' env' b, Ps G W (k b) Z σ H' B F' env' ∧ Ra B F' env' σ H' b y) := by
  obtain ⟨Qd, Ed, rel, hm, h1, h2, h3, h4, h5⟩ := h
  refine ⟨B, F, env, fun a env' => k a env' Qd Ed, Ed, rel, hm, fun a env' b F' H' hk st rl hr => ⟨F', env', a, ⟨Qd, Ed, rl, hk, ?_, ?_, ?_, ?_, ?_⟩, hr⟩, fun x env' cls d F' H' q st rl r => h5 x env' σ cls d F' H' q st rl r⟩
  · exact fun e2 s2 F2 H2 q2 st2 rl2 => h1 e2 s2 F2 H2 q2 (st.trans st2) rl2
  · exact fun e2 s2 F2 H2 q2 st2 rl2 => h2 e2 s2 F2 H2 q2 (st.trans st2) rl2
  · exact fun e2 s2 F2 H2 q2 st2 rl2 => h3 e2 s2 F2 H2 q2 (st.trans st2) rl2
  · exact fun r e2 s2 F2 H2 v q2 st2 rl2 => h4 r e2 s2 F2 H2 v q2 (st.trans st2) rl2
  · exact fun x e2 s2 c d F2 H2 q2 st2 rl2 => h5 x e2 s2 c d F2 H2 q2 (st.trans st2) rl2
theorem Ps.next {Z : Ends} (h : Ps G W (ret .nx) Z σ H B F env) : Z.nx σ H := by
  obtain ⟨Qd, Ed, rel, hm, h1, _⟩ := h
  exact h1 env σ F H hm Stp.refl rel
theorem Ps.retd {Z : Ends} {d : D} {v : V} (h : Ps G W (ret (.rt (.d d))) Z σ H B F env) (r : Rp G F H d v) : Z.rt v H := by
  obtain ⟨Qd, Ed, rel, hm, h1, h2, h3, h4, h5⟩ := h
  exact h4 _ env σ F H v hm Stp.refl rel r
end

section
variable {X : Cx} {C : Addr} {W : WX} {e : Expr} {st : Stmt} {sts : List Stmt} {m k : M Fl} {md : M D} {mo : M O} {mt : M Bool} {pos : Pos}
theorem s_nil : PSs X [] (tS (gx X C) W (ret .nx)) := pssImp pss_nil fun D σ H ⟨B, F, env, h⟩ => h.next
theorem s_cons (h1 : PS X st (tS (gx X C) W m)) (h2 : PSs X sts (tS (gx X C) W k)) : PSs X (st :: sts) (tS (gx X C) W (seqM m k)) := pssImp (pss_cons h1 h2) fun D σ H ⟨B, F, env, h⟩ => ⟨B, F, env, h.seq fun _ _ z => z⟩
theorem s_one (h1 : PS X st (tS (gx X C) W m)) : PSs X [st] (tS (gx X C) W m) := pssImp (pss_one h1) fun D σ H h => h
theorem s_pass : PS X (.Pass pos) (tS (gx X C) W (ret .nx)) := psImp ps_pass fun D σ H ⟨B, F, env, h⟩ => h.next
theorem s_break : PS X (.Break pos) (tS (gx X C) W (ret .bk)) := psImp ps_break fun D σ H ⟨B, F, env, Qd, Ed, rel, hm, h1, h2, h3, h4, h5⟩ => h2 env σ F H hm Stp.refl rel
theorem s_cont : PS X (.Continue pos) (tS (gx X C) W (ret .ct)) := psImp ps_continue fun D σ H ⟨B, F, env, Qd, Ed, rel, hm, h1, h2, h3, h4, h5⟩ => h3 env σ F H hm Stp.refl rel
theorem s_never : PS X st (tS (gx X C) W fail) := psImp ps_never fun D σ H ⟨B, F, env, Qd, Ed, rel, hm, _⟩ => hm
theorem s_doc {x j p p'} : PS X (.Expr (.Constant (.str x) j p) p') (tS (gx X C) W (ret .nx)) := psImp ps_doc fun D σ H ⟨B, F, env, h⟩ => h.next
theorem s_expr (he : PE X e (tD (gx X C) W md)) (hs : swapsWith e none pos.line X.env = pure false := by rfl) : PS X (.Expr e pos) (tS (gx X C) W (thenN md)) :=
  psImp (ps_expr he hs) fun D σ H ⟨B, F, env, h⟩ => (h.bind (Ra := RD (gx X C)) (as := []) (xs := [])).imp fun x H1 ⟨F1, env1, d, p, r⟩ => p.next
theorem s_ret (he : PE X e (tD (gx X C) W md)) : PS X (.Return (some e) pos) (tS (gx X C) W (bnd md fun d => ret (.rt (.d d)))) :=
  psImp (ps_ret he) fun D σ H ⟨B, F, env, h⟩ => (h.bind (Ra := RD (gx X C)) (as := []) (xs := [])).imp fun x H1 ⟨F1, env1, d, p, r⟩ => p.retd r
theorem s_retN : PS X (.Return none pos) (tS (gx X C) W (ret (.rt (.d .non)))) := psImp ps_retN fun D σ H ⟨B, F, env, h⟩ => h.retd (d := .non) (v := .non) rfl
theorem s_retO (he : PE X e (tO (gx X C) W mo)) : PS X (.Return (some e) pos) (tS (gx X C) W (bnd mo fun d => ret (.rt (.o d)))) :=
  psImp (ps_ret he) fun D σ H ⟨B, F, env, h⟩ => (h.bind (Ra := RO (gx X C)) (as := []) (xs := [])).imp fun x H1 ⟨F1, env1, d, ⟨Qd, Ed, rel, hm, h1, h2, h3, h4, h5⟩, a, ea, hF, hB, ho, hn⟩ =>
    h4 _ env1 σ F1 H1 x hm Stp.refl rel ⟨a, ea, hF, hB, ho, fun i b p q z => by
      subst z
      exact hn i ⟨⟨_, q, rfl⟩, (rel.sl i _ q).1⟩⟩
/-- return of an owned name -/
def takeO (i : Nat) : M O := fun env Q _ => match env[i]? with
  | some (.ow o) => Q o env
  | _ => False
theorem s_retOw {i : Nat} (he : PE X e (tVar i)) : PS X (.Return (some e) pos) (tS (gx X C) W (bnd (takeO i) fun d => ret (.rt (.o d)))) :=
  psImp (ps_ret he) fun D σ H ⟨B, F, env, Qd, Ed, rel, hm, h1, h2, h3, h4, h5⟩ => by
    have hm : takeO i env (fun o env' => Qd (.rt (.o o)) env') Ed := hm
    unfold takeO at hm
    cases q : env[i]? with
    | none => rw [q] at hm; exact hm.elim
    | some s =>
      rw [q] at hm
      cases s with
      | ow o =>
        obtain ⟨a, g1, g2, g3, g4, g5⟩ := rel.owned (.inl q)
        exact ⟨_, g1, h4 _ env σ F H _ hm Stp.refl rel ⟨a, rfl, g2, g3, g4, fun j b p q' z => by
          subst z
          have e := rel.ap i j b g5 ⟨⟨_, q', rfl⟩, (rel.sl j _ q').1⟩
          subst e
          rw [q] at q'; cases q'⟩⟩
      | _ => exact hm.elim
theorem s_if {c : Expr} {a b : List Stmt} (hc : PT X c (tBl (gx X C) W mt)) (ha : PSs X a (tS (gx X C) W m)) (hb : PSs X b (tS (gx X C) W k)) : PS X (.If c a b pos) (tS (gx X C) W (ifM mt m k)) :=
  psImp (ps_if hc ha hb) fun D σ H ⟨B, F, env, h⟩ => (h.bind (Ra := RB) (as := []) (xs := [])).imp fun q H1 ⟨F1, env1, d, p, r⟩ => by
    cases (show d = q from r)
    cases q with
    | true => rw [if_pos rfl] at p ⊢; exact ⟨B, F1, env1, p⟩
    | false => rw [if_neg Bool.false_ne_true] at p ⊢; exact ⟨B, F1, env1, p⟩
/-- name = a datum -/
theorem s_set {i : Nat} {x : Str} {p : Pos} (hN : X.N.Nodup) (hi : X.N[i]? = some x) (hx : Loc X.env.scope x) (he : PE X e (tD (gx X C) W md)) (hs : swapsWith e (some (.Name x p)) pos.line X.env = pure false := by rfl)
    (hf : X.fn x = true ∨ X.env.scope.names.lookup x = some .local := by first | exact .inl rfl | exact .inr rfl | assumption) : PS X (.Assign [.Name x p] e pos) (tS (gx X C) W (thenN (bnd md (setI i)))) :=
  psImp (ps_set hN hi hx he hs hf) fun D σ H ⟨B, F, env, h⟩ => by
    have h : Ps (gx X C) W (bnd md fun d => bnd (setI i d) fun _ => ret .nx) D σ H B F env := h
    refine (h.bind (Ra := RD (gx X C)) (as := []) (xs := [])).imp fun y H1 ⟨F1, env1, d, ⟨Qd, Ed, rel, hm, h1, h2, h3, h4, h5⟩, r⟩ => ?_
    have hm : setI i d env1 (fun _ env' => Qd .nx env') Ed := hm
    unfold setI at hm
    cases q : env1[i]? with
    | none => rw [q] at hm; exact hm.elim
    | some s =>
      rw [q] at hm
      cases s with
      | io _ _ => exact hm.elim
      | _ => exact h1 _ _ F1 H1 hm Stp.refl (rel.setI r)
/-- name = a new object -/
theorem s_setO {i : Nat} {x : Str} {p : Pos} (hN : X.N.Nodup) (hi : X.N[i]? = some x) (hx : Loc X.env.scope x) (he : PE X e (tO (gx X C) W mo)) (hs : swapsWith e (some (.Name x p)) pos.line X.env = pure false := by rfl)
    (hf : X.fn x = true ∨ X.env.scope.names.lookup x = some .local := by first | exact .inl rfl | exact .inr rfl | assumption) : PS X (.Assign [.Name x p] e pos) (tS (gx X C) W (thenN (bnd mo (setO i)))) :=
  psImp (ps_set hN hi hx he hs hf) fun D σ H ⟨B, F, env, h⟩ => by
    have h : Ps (gx X C) W (bnd mo fun d => bnd (setO i d) fun _ => ret .nx) D σ H B F env := h
    refine (h.bind (Ra := RO (gx X C)) (as := []) (xs := [])).imp fun y H1 ⟨F1, env1, d, ⟨Qd, Ed, rel, hm, h1, h2, h3, h4, h5⟩, a, ea, hF, hB, ho, hn⟩ => ?_
    subst ea
    have hm : setO i d env1 (fun _ env' => Qd .nx env') Ed := hm
    unfold setO at hm
    cases q : env1[i]? with
    | none => rw [q] at hm; exact hm.elim
    | some s =>
      rw [q] at hm
      cases s with
      | io _ _ => exact hm.elim
      | _ => exact h1 _ _ F1 H1 hm Stp.refl (rel.setO hF hB ho hn)

/-! ### while -/
def loopN (c : M Bool) (b : M Fl) : Nat → M Fl
  | 0 => fun _ _ _ => False
  | n + 1 => fun env Q E => c env (fun t env' => if t = true then b env' (fun f env'' => match f with
    | .nx => loopN c b n env'' Q E
    | .ct => loopN c b n env'' Q E
    | .bk => Q .nx env''
    | .rt r => Q (.rt r) env'') E else Q .nx env') E
def whileM (c : M Bool) (b : M Fl) : M Fl := fun env Q E => ∃ n, loopN c b n env Q E
theorem s_while {c : Expr} {body : List Stmt} (hp : PassesOwn (model X.prog X.w) X.A X.env X.xe) (hc : PT X c (tBl (gx X C) W mt)) (hb : PSs X body (tS (gx X C) W m)) : PS X (.While c body [] pos) (tS (gx X C) W (whileM mt m)) :=
  psImp (ps_while hp hc hb) fun D σ H ⟨B, F, env, Qd, Ed, rel, ⟨n0, i0⟩, h1, h2, h3, h4, h5⟩ => by
    refine ⟨fun n σ' H' => ∃ F' env', loopN mt m n env' Qd Ed ∧ Rel (gx X C) B F' σ' env' H' ∧ Stp B F H F' H', ⟨n0, F, env, i0, rel, Stp.refl⟩, ?_⟩
    rintro n σ1 H1 ⟨F1, env1, i1, rel1, st1⟩
    cases n with
    | zero => exact (show False from i1).elim
    | succ n =>
    refine ⟨B, F1, env1, _, Ed, rel1, i1, fun t env2 b F2 H2 q st2 rl2 r => ?_, fun x env2 cls d F2 H2 q st2 rl2 r => h5 x env2 σ1 cls d F2 H2 q (st1.trans st2) rl2 r⟩
    cases (show t = b from r)
    cases t with
    | false =>
      rw [if_neg Bool.false_ne_true] at q ⊢
      exact h1 env2 σ1 F2 H2 q (st1.trans st2) rl2
    | true =>
      rw [if_pos rfl] at q ⊢
      refine ⟨fun σ3 H3 => ∃ F3 env3, loopN mt m n env3 Qd Ed ∧ Rel (gx X C) B F3 σ3 env3 H3 ∧ Stp B F H F3 H3, fun σ3 H3 z => ⟨n, Nat.lt_succ_self n, z⟩, B, F2, env2, _, Ed, rl2, q, ?_, ?_, ?_, ?_, ?_⟩
      · exact fun e3 s3 F3 H3 q3 st3 rl3 => ⟨F3, e3, q3, rl3, (st1.trans st2).trans st3⟩
      · exact fun e3 s3 F3 H3 q3 st3 rl3 => h1 e3 s3 F3 H3 q3 ((st1.trans st2).trans st3) rl3
      · exact fun e3 s3 F3 H3 q3 st3 rl3 => ⟨F3, e3, q3, rl3, (st1.trans st2).trans st3⟩
      · exact fun r3 e3 s3 F3 H3 v q3 st3 rl3 => h4 r3 e3 s3 F3 H3 v q3 ((st1.trans st2).trans st3) rl3
      · exact fun x e3 s3 c3 d3 F3 H3 q3 st3 rl3 => h5 x e3 s3 c3 d3 F3 H3 q3 ((st1.trans st2).trans st3) rl3
end
end DL

set_option Elab.async false
set_option linter.all false
set_option maxRecDepth 100000
set_option maxHeartbeats 2000000
/-! enumerate over a tuple -/
namespace DLe
open PySem PySem.Spec PyProof.Rows L2
abbrev eObj (a : Addr) : Obj := { cls := .type "enumerate", data := .fields #[.none, .bool false, .ref a, rawInt 0, .none, .none] }
theorem meets_one {v : Value} {o : Obj} {T : Heap → Prop} (B : Begins v o T) : Meets (Builtin.«enumerate.__new__» ⟨[.type "enumerate", v], []⟩) (fun _ R s => T s.heap ∧ R (.ok (.ret (.ref (s.heap.push o).objs.size))) { s with heap := (s.heap.push o).push (eObj s.heap.objs.size) }) := .of_wp fun prog w A R s hT => by
    obtain ⟨hp, g, d, tk, os⟩ := s
    obtain ⟨hz, hR⟩ := hT
    have hsub := sub_enumerate
    have it1 : ∀ {A₁ : Around} {E₁ : Value → Shared → Prop} {Q₁ : Value → Shared → Prop}, Q₁ (.ref hp.objs.size) ⟨hp.push o, g, d, tk, os⟩ → wpAny (model prog w) A₁ (pyIter v) Q₁ E₁ ⟨hp, g, d, tk, os⟩ := fun q => B.iter prog w _ _ ⟨hp, g, d, tk, os⟩ _ hz q
    wp_walk using it1
    refine wpAny_stack_any fun stk => wpAny_pure ?_
    split
    · rename_i c _ _ _ _ _
      cases (c == Value.type "enumerate") <;> (wp_walk using it1; exact ⟨_, rfl, hR⟩)
    · wp_walk using it1
      exact ⟨_, rfl, hR⟩
theorem enum_one {prog : Program} {w : World} {A : Around} {E : Value → Shared → Prop} {s : Shared} {v : Value} {o : Obj} {T : Heap → Prop} {Q : Value → Shared → Prop} (B : Begins v o T) (hT : T s.heap)
    (hq : ∀ h1, IsEnum h1 (s.heap.objs.size + 1) s.heap.objs.size 0 .none → h1.get? s.heap.objs.size = some o → h1.objs.size = s.heap.objs.size + 2 → (∀ b u, s.heap.get? b = some u → h1.get? b = some u) → Q (.ref (s.heap.objs.size + 1)) { s with heap := h1 }) :
    wpAny (model prog w) A (call (.type "enumerate") [v]) Q E s := by
  refine callType_new F.called_enumerate (by decide) (F.typeCall_enumerate_1 _) (F.newCall_enumerate_1 _) (fun obj => F.args_object_init_2 obj _) F.entry_enumerate_new (meets_one B) ⟨hT, ?_⟩
  have sz : (s.heap.push o).objs.size = s.heap.objs.size + 1 := Heap.size_push ..
  show _ ∧ _
  rw [sz]
  have ie : IsEnum ((s.heap.push o).push (eObj s.heap.objs.size)) (s.heap.objs.size + 1) s.heap.objs.size 0 .none := by
    have z := Heap.get?_push_size (s.heap.push o) (o := eObj s.heap.objs.size) rfl
    rw [sz] at z
    exact z
  exact ⟨⟨_, ie, rfl⟩, hq _ ie (Heap.get?_push_of_some _ (Heap.get?_push_size _ B.free)) (by rw [Heap.size_push, sz]) fun b u x => Heap.get?_push_of_some _ (Heap.get?_push_of_some _ x)⟩

/-- the tuple at a, its items with their numbers in new pairs -/
def Itte (K : PySem.W.Frag) (a : Addr) : It where
  go := fun i H => ∃ (xs : List V) (x : V), SqT K H a xs ∧ xs[i]? = some x
  yld := fun i H v H' => ∃ T x, v = .ref T ∧ H T = none ∧ H' = upd H T (.tup [.int (i : Nat), x]) ∧ ∀ xs, SqT K H a xs → xs[i]? = some x
  stop := fun i H => ∃ xs : List V, SqT K H a xs ∧ xs.length ≤ i
theorem turn_et {P : Program} {w : World} {K : PySem.W.Frag} {es : List Expr} {k : Nat} {pos : Pos} (a e it : Addr) (ea : it ≠ a) (eb : e ≠ a) :
    Turn P w K (.Tuple es k pos) (Itte K a) [e, it] e (fun i h => (∃ old, IsEnum h e it ((i : Nat) : Int) old) ∧ h.IsTupleIter it a i ∧ e ≠ it) where
  mem := List.mem_cons_self
  obj := fun i h ⟨⟨old, ie⟩, ⟨o, ho, _, hd⟩, _⟩ b hb => by
    rcases List.mem_cons.mp hb with z | z
    · rw [z]; exact ⟨_, ie, fun v q => nomatch q⟩
    · rw [List.mem_singleton.mp z]; exact ⟨o, ho, fun v q => by rw [hd] at q; cases q⟩
  keep := fun i h h1 ⟨⟨old, ie⟩, ti, ne⟩ kk => ⟨⟨old, kk e (by simp) _ ie⟩, ti.at fun o q => kk it (by simp) o q, ne⟩
  item := by
    intro X eP ew eK calm i pins s σ H E I fp ⟨⟨old, ie⟩, ti, ne⟩ ⟨xs, x, sq, ex⟩
    subst eP ew eK
    obtain ⟨its, rv, tp, sz⟩ := I.tuple sq
    obtain ⟨u, eu, ru⟩ := rv.get ex
    have le : e < s.heap.objs.size := Heap.lt_size ie
    have li : it < s.heap.objs.size := by obtain ⟨_, q, _⟩ := ti; exact Heap.lt_size q
    have lt : i < its.toArray.size := by simpa using (List.getElem?_eq_some_iff.mp eu).1
    refine wpAny_pyNext_enum_itemD (Draws.tuple (A := X.A.in1) (I.ok.hd calm) it a ea.symm its.toArray) ie ⟨ti, tp⟩ lt ne (by simp [ne, eb]) fun y h1 tk py eo ⟨ti1, _⟩ eT zs kk => ?_
    have ey : y = u := Option.some.inj (py.symm.trans (by simpa using eu))
    subst ey
    refine ⟨_, rfl, wpAny_letOwnedTupleGo_enum (s := { s with heap := h1, toks := tk + 1 }) eo fun h2 ie2 sb => ?_⟩
    have eT2 : h2.get? s.heap.objs.size = some { cls := .type "tuple", data := .seq #[.int i tk, y] } := (sb.2 _ (Nat.ne_of_gt le)).trans eT
    have ok2 : ObjOk X.prog X.w (upd H s.heap.objs.size (.tup [.int (i : Nat), x])) h2 s.heap.objs.size (.tup [.int (i : Nat), x]) := ⟨by show 2 ≤ sizeLine; decide, [.int i tk, y], .cons ⟨_, rfl⟩ (.cons ru .nil), _, eT2, rfl, _, rfl⟩
    have J : Inv X pins σ (upd H s.heap.objs.size (.tup [.int (i : Nat), x])) { s with heap := h2, toks := tk + 1 } :=
      I.turnedNew (ch := [e, it]) (fun b ob nb q => (sb.2 b fun z => nb (by simp [z])).trans (kk b ob (fun z => nb (by simp [z])) (fun z => nb (by simp [z])) q)) fp (Nat.le_refl _) ok2
    refine ⟨.ref s.heap.objs.size, _, J, rfl, ⟨_, x, rfl, I.hok.fresh (Nat.le_refl _), rfl, fun ys hy => by rw [I.tuple_inj hy sq]; exact ex⟩, ⟨⟨y, ?_⟩, ti1.at fun o q => (sb.2 it (Ne.symm ne)).trans q, ne⟩, fun b hb => ?_⟩
    · rw [show ((i + 1 : Nat) : Int) = (i : Int) + 1 by omega]; exact ie2
    · have lb : b < s.heap.objs.size := by
        rcases List.mem_cons.mp hb with z | z
        · rw [z]; exact le
        · rw [List.mem_singleton.mp z]; exact li
      rw [upd_ne (Nat.ne_of_lt lb)]
      exact (fp b hb).1
  done := by
    intro X eP ew eK calm i pins s σ H E I fp ⟨⟨old, ie⟩, ti, ne⟩ ⟨xs, sq, ex⟩
    subst eP ew eK
    obtain ⟨its, rv, tp, sz⟩ := I.tuple sq
    obtain ⟨f0, f1, f2, f3, f4, f5⟩ := fp it (by simp)
    have hl := rv.length
    have stop : X.A.in1.handled = none := I.ok.hd calm
    refine (show wpAny _ _ _ _ _ _ from ?_)
    have D := Draws.tuple (prog := X.prog) (w := X.w) (A := X.A.in1) stop it a ea.symm its.toArray
    refine wpAny_pyNext_enum_endD (P := fun _ _ => True) (St := fun _ h => h.IsTupleIter it a i ∧ h.IsTuple a its.toArray) (n := 0) (fp := [it, a]) ⟨fun _ _ st => D.live i _ st, fun _ _ _ st k => D.frame i _ _ st k, fun _ _ _ _ z => absurd z (Nat.not_lt_zero _), fun s1 Q1 E1 st hE => ?_⟩ ie ⟨ti, tp⟩ fun h1 eb => ⟨rfl, I.turned (t' := s.toks) (fun b o hb q => eb b o hb q) f0 f1 f3 f4 f5⟩
    exact wpAny_nextOf_tuple_end stop st.1 st.2 (by simp; omega) hE
  self := fun A i s Q E ⟨⟨_, ie⟩, _⟩ q => wpAny_pyIter_enum ie q
def iEnT (K : PySem.W.Frag) (ta : TA) : TI := fun σ H R => ta σ H fun vs H1 => ∃ a xs, vs = [.ref a] ∧ SqT K H1 a xs ∧ R (Itte K a) H1
theorem pi_enT {X : Cx} {e : Expr} {ta : TA} {p pos tpos : Pos} {es : List Expr} {k : Nat} (hg : Gl X "enumerate") (hm : X.mg "enumerate" = none) (ha : PA X [e] ta) (hs : starEach [e] X.env = [(false, eval e X.env)] := by rfl) :
    PI X (.Tuple es k tpos) (.Call (.Name "enumerate" p) [e] [] pos) (iEnT X.K ta) := by
  refine ⟨fun pins s σ H R I h => Call_ (ld_blt I hg hm boot_enumerate (PyProof.Rows.callWith_type1 (thn (ha.run pos pins s σ H _ I h) fun us s1 ⟨vs, H1, I1, rs, a, xs, ev, sq, q⟩ => ?_) hs rfl))⟩
  subst ev
  cases rs with
  | cons ra rn =>
    cases rn
    cases ra
    obtain ⟨its, rv, tp, sz⟩ := I1.tuple sq
    have la : a < s1.heap.objs.size := by obtain ⟨o, ho, _⟩ := tp; exact Heap.lt_size ho
    refine enum_one (begins_tuple a its.toArray) tp fun h1 ie io _ kk => wpAny_pyIter_enum ie ?_
    have J : Inv X pins σ H1 { s1 with heap := h1 } := I1.kept (t' := s1.toks) kk
    refine ⟨s1.heap.objs.size + 1, [s1.heap.objs.size + 1, s1.heap.objs.size], _, _, H1, rfl, J, turn_et a (s1.heap.objs.size + 1) s1.heap.objs.size (Nat.ne_of_gt la) (Nat.ne_of_gt (Nat.lt_succ_of_lt la)), ⟨⟨.none, ie⟩, ⟨_, io, rfl, rfl⟩, Nat.succ_ne_self _⟩, fun b hb => ?_, q⟩
    have lb : s1.heap.objs.size ≤ b := by
      rcases List.mem_cons.mp hb with z | z
      · rw [z]; exact Nat.le_add_right _ _
      · rw [List.mem_singleton.mp z]; exact Nat.le_refl _
    exact I1.fpOk lb (I1.hok.fresh lb)
end DLe

set_option Elab.async false
set_option linter.all false
set_option maxRecDepth 100000
set_option maxHeartbeats 2000000
namespace DL
open PySem PySem.Spec PyProof.Rows L2
variable [Tbs]

/-! ### targets -/
/-- a target that stores into the slots is alone -/
def tTo (G : Gx) (is : List Nat) (k : D → M Unit) : TG := fun x σ H Q => ∃ (B F : Addr → Prop) (env : List Slot) (d : D) (Qd : List Slot → Prop), Rel G B F σ env H ∧ Rp G F H d x ∧ k d env (fun _ env' => Qd env') (fun _ _ => False) ∧
  ∀ env' σ', Qd env' → Rel G B F σ' env' H → σ'.length = σ.length → (∀ j, j ∉ is → σ'[j]? = σ[j]?) → Q σ' H
def setIs : List Nat → List D → M Unit
  | [], [] => ret ()
  | i :: is, d :: ds => bnd (setI i d) fun _ => setIs is ds
  | _, _ => fail
def tTos (G : Gx) (is : List Nat) : TGs := fun xs σ H Q => ∃ (B F : Addr → Prop) (env : List Slot) (ds : List D) (Qd : List Slot → Prop), Rel G B F σ env H ∧ RpL G F H ds xs ∧ setIs is ds env (fun _ env' => Qd env') (fun _ _ => False) ∧
  ∀ env' σ', Qd env' → Rel G B F σ' env' H → σ'.length = σ.length → (∀ j, j ∉ is → σ'[j]? = σ[j]?) → Q σ' H
def setTup (is : List Nat) (d : D) : M Unit := match d with
  | .tup ds => setIs is ds
  | .pr ds => setIs is ds
  | _ => fail
theorem setI_spec {i : Nat} {d : D} {env : List Slot} {Q : Unit → List Slot → Prop} {E : Exn → List Slot → Prop} (h : setI i d env Q E) : Q () (env.set i (.im d)) := by
  unfold setI at h
  cases q : env[i]? with
  | none => rw [q] at h; exact h.elim
  | some s =>
    rw [q] at h
    cases s with
    | io _ _ => exact h.elim
    | _ => exact h
theorem pgImp {X : Cx} {e : Expr} {t t' : TG} (h : PG X e t) (i : ∀ v σ H Q, t' v σ H Q → t v σ H Q) : PG X e t' := ⟨fun pins s σ H v u Q I r q => h.run pins s σ H v u Q I r (i v σ H Q q)⟩
theorem pgsImp {X : Cx} {e : List Expr} {t t' : TGs} (h : PGs X e t) (i : ∀ v σ H Q, t' v σ H Q → t v σ H Q) : PGs X e t' := ⟨fun pins s σ H v u Q I r q => h.run pins s σ H v u Q I r (i v σ H Q q)⟩
section
variable {X : Cx} {C : Addr} {W : WX} {e : Expr} {es : List Expr} {st : Stmt} {sts : List Stmt} {m k : M Fl} {md : M D} {mt : M Bool} {pos : Pos} {is : List Nat}
theorem g_name {i : Nat} {x : Str} (hN : X.N.Nodup) (hi : X.N[i]? = some x) (hx : Loc X.env.scope x) (hf : X.fn x = true ∨ X.env.scope.names.lookup x = some .local := by first | exact .inl rfl | exact .inr rfl | assumption) : PG X (.Name x pos) (tTo (gx X C) [i] (setI i)) :=
  pgImp (pg_name hN hi hx hf) fun v σ H Q ⟨B, F, env, d, Qd, rel, r, hm, hq⟩ => hq _ _ (setI_spec hm) (rel.setI r) (List.length_set ..) fun j hj => by
    rw [List.getElem?_set_ne fun z => hj (by simp [z])]
theorem gs_nil : PGs X [] (tTos (gx X C) []) := pgsImp pgs_nil fun v σ H Q ⟨B, F, env, ds, Qd, rel, r, hm, hq⟩ => by
  cases ds with
  | nil => exact ⟨r, hq env σ hm rel rfl fun _ _ => rfl⟩
  | cons d ds => exact (show False from hm).elim
theorem gs_cons {i : Nat} {x : Str} {p : Pos} (hN : X.N.Nodup) (hi : X.N[i]? = some x) (hx : Loc X.env.scope x) (h2 : PGs X es (tTos (gx X C) is))
    (hs : (assignEach (.Name x p :: es) X.env).map (·.2) = assign (.Name x p) X.env :: (assignEach es X.env).map (·.2) := by rfl)
    (hf : X.fn x = true ∨ X.env.scope.names.lookup x = some .local := by first | exact .inl rfl | exact .inr rfl | assumption) : PGs X (.Name x p :: es) (tTos (gx X C) (i :: is)) :=
  pgsImp (pgs_cons (pg_name (i := i) hN hi hx hf) h2 hs) fun v σ H Q ⟨B, F, env, ds, Qd, rel, r, hm, hq⟩ => by
    cases ds with
    | nil => exact (show False from hm).elim
    | cons d ds =>
      obtain ⟨v0, rr, e0, rd, rs⟩ := r
      subst e0
      have hm : setI i d env (fun _ env' => setIs is ds env' (fun _ env' => Qd env') (fun _ _ => False)) (fun _ _ => False) := hm
      refine ⟨v0, rr, rfl, B, F, _, ds, Qd, rel.setI rd, rs, setI_spec hm, fun env' σ' q rl hl ho => hq env' σ' q rl (hl.trans (List.length_set ..)) fun j hj => ?_⟩
      rw [ho j fun z => hj (List.mem_cons_of_mem _ z), List.getElem?_set_ne fun z => hj (by simp [z])]
theorem g_tup {kk : Nat} {n : Nat} (hc : X.calm = true) (h : PGs X es (tTos (gx X C) is)) (hl : is.length = n) (hn : (assignEach es X.env).length = n := by rfl) (hst : (assignEach es X.env).findIdx? (·.1) = none := by rfl) :
    PG X (.Tuple es kk pos) (tTo (gx X C) is (setTup is)) := pgImp (pg_tup hc h hn hst) fun v σ H Q ⟨B, F, env, d, Qd, rel, r, hm, hq⟩ => by
  have fin : ∀ (ds : List D), (∃ a vs, v = .ref a ∧ Rd H a (.tup vs) ∧ RpL (gx X C) F H ds vs) → setIs is ds env (fun _ env' => Qd env') (fun _ _ => False) → gTup X.K n (tTos (gx X C) is) v σ H Q := fun ds r hm => by
    obtain ⟨a, vs, e0, h1, h2⟩ := r
    have len : ∀ (is : List Nat) (ds : List D) (env : List Slot) (Q : Unit → List Slot → Prop), setIs is ds env Q (fun _ _ => False) → is.length = ds.length := by
      intro is
      induction is with
      | nil =>
        intro ds env Q h
        cases ds with
        | nil => rfl
        | cons _ _ => exact (show False from h).elim
      | cons i is ih =>
        intro ds env Q h
        cases ds with
        | nil => exact (show False from h).elim
        | cons d ds => exact congrArg (· + 1) (ih ds _ _ (setI_spec (show setI i d env (fun _ env' => setIs is ds env' Q (fun _ _ => False)) (fun _ _ => False) from h)))
    exact ⟨a, vs, e0, .inl h1, by rw [← h2.length, ← len is ds env _ hm, hl], B, F, env, ds, Qd, rel, h2, hm, hq⟩
  cases d with
  | tup ds => obtain ⟨a, vs, e0, h1, h2⟩ := r; exact fin ds ⟨a, vs, e0, h1.rd, h2⟩ hm
  | pr ds => exact fin ds r hm
  | _ => exact (show False from hm).elim
/-- target = datum -/
theorem s_asg {tg : Expr} {k : D → M Unit} (he : PE X e (tD (gx X C) W md)) (hg : PG X tg (tTo (gx X C) is k)) (hs : swapsWithSole [tg] e pos.line X.env = pure false := by rfl) (hw : swappedStores [tg] e X.env = pure none := by rfl)
    (h1 : (assignEach [tg] X.env).map (·.2) = [assign tg X.env] := by rfl) (nox : ∀ d env Q E, k d env Q E → k d env Q (fun _ _ => False)) : PS X (.Assign [tg] e pos) (tS (gx X C) W (thenN (bnd md k))) :=
  psImp (ps_asg he hg hs hw h1) fun Z σ H ⟨B, F, env, h⟩ => by
    have h : Ps (gx X C) W (bnd md fun d => bnd (k d) fun _ => ret .nx) Z σ H B F env := h
    refine (h.bind (Ra := RD (gx X C)) (as := []) (xs := [])).imp fun y H1 ⟨F1, env1, d, ⟨Qd, Ed, rel, hm, h1, h2, h3, h4, h5⟩, r⟩ => ?_
    exact ⟨B, F1, env1, d, fun env' => Qd .nx env', rel, r, nox d env1 _ _ hm, fun env' σ' q rl _ _ => h1 env' σ' F1 H1 q Stp.refl rl⟩
theorem setI_nox {i : Nat} {d : D} {env : List Slot} {Q : Unit → List Slot → Prop} {E E' : Exn → List Slot → Prop} (h : setI i d env Q E) : setI i d env Q E' := h
theorem setIs_nox : ∀ {is : List Nat} {ds : List D} {env : List Slot} {Q : Unit → List Slot → Prop} {E E' : Exn → List Slot → Prop}, setIs is ds env Q E → setIs is ds env Q E'
  | [], [], _, _, _, _, h => h
  | [], _ :: _, _, _, _, _, h => h
  | _ :: _, [], _, _, _, _, h => h
  | i :: is, d :: ds, env, Q, E, E', h => by
    have h' : setI i d env (fun _ env' => setIs is ds env' Q E) E := h
    have q := setI_spec h'
    show setI i d env (fun _ env' => setIs is ds env' Q E') E'
    unfold setI at h' ⊢
    cases z : env[i]? with
    | none => rw [z] at h'; exact h'.elim
    | some s =>
      rw [z] at h'
      cases s with
      | io _ _ => exact h'.elim
      | _ => exact setIs_nox q
theorem setTup_nox {is : List Nat} (d : D) (env : List Slot) (Q : Unit → List Slot → Prop) (E : Exn → List Slot → Prop) (h : setTup is d env Q E) : setTup is d env Q (fun _ _ => False) := by
  cases d with
  | tup ds => exact setIs_nox (show setIs is ds env Q E from h)
  | pr ds => exact setIs_nox (show setIs is ds env Q E from h)
  | _ => exact (show False from h).elim

/-! ### what is walked -/
/-- J walks the data ds, whatever this code does meanwhile -/
def ItOk (G : Gx) (J : It) (ds : List D) (B F : Addr → Prop) (H : Hp) : Prop := ∀ F' H', Stp B F H F' H' → ∀ i, (∀ d, ds[i]? = some d → J.go i H' ∧ ∀ x H'', J.yld i H' x H'' → Stp B F' H' F' H'' ∧ (∀ a o, H' a = some o → H'' a = some o) ∧ Rp G F' H'' d x) ∧ (ds.length ≤ i → J.stop i H')
theorem ItOk.mono {G : Gx} {J : It} {ds : List D} {B F F' : Addr → Prop} {H H' : Hp} (h : ItOk G J ds B F H) (s : Stp B F H F' H') : ItOk G J ds B F' H' := fun F2 H2 s2 => h F2 H2 (s.trans s2)
def RI (G : Gx) : (Addr → Prop) → (Addr → Prop) → List Slot → L2.St → Hp → List D → It → Prop := fun B F _ _ H ds J => ItOk G J ds B F H
abbrev tI (G : Gx) (W : WX) (m : M (List D)) : TI := Lift G W (RI G) m
theorem stp_keep {B F : Addr → Prop} {H H' : Hp} (h : ∀ a o, H a = some o → H' a = some o) : Stp B F H F H' where
  fm := fun _ h => h
  fn := fun _ h => .inl h
  hk0 := fun a o _ e _ => h a o e
  tb := fun t => t.ext (fun _ z => z) h
  ht := fun a vs q => q.imp (h a _) fun ⟨o, q⟩ => ⟨o, h a _ q⟩
def itTup (d : D) : M (List D) := match d with
  | .tup ds => ret ds
  | .pr ds => ret ds
  | _ => fail
def itLst (d : D) : M (List D) := match d with
  | .lst ds => ret ds
  | .scr ns => ret (ns.map .int)
  | _ => fail
def signs (s : Str) : List D := s.cps.toList.map fun c => .str ⟨#[c]⟩
def itStr (d : D) : M (List D) := match d with
  | .str s => ret (signs s)
  | _ => fail
def numbered (ds : List D) : List D := ds.zipIdx.map fun p => .pr [.int (p.2 : Nat), p.1]
def enTup (ds : List D) : M (List D) := match ds with
  | [.tup ds] => ret (numbered ds)
  | _ => fail
def enLst (ds : List D) : M (List D) := match ds with
  | [.lst ds] => ret (numbered ds)
  | [.scr ns] => ret (numbered (ns.map .int))
  | _ => fail
def rangeL (lo hi : Int) : List D := (List.range (hi - lo).toNat).map fun i => .int (lo + (i : Nat))
def itR1 (ds : List D) : M (List D) := match ds with
  | [.int j] => ask (-(2 ^ 62) ≤ j ∧ j < 2 ^ 62) (ret (rangeL 0 j))
  | _ => fail
def itR2 (ds : List D) : M (List D) := match ds with
  | [.int i, .int j] => ask (-(2 ^ 62) ≤ i ∧ i < 2 ^ 62 ∧ -(2 ^ 62) ≤ j ∧ j < 2 ^ 62) (ret (rangeL i j))
  | _ => fail
theorem ok_tup {G : Gx} {B F : Addr → Prop} {H : Hp} {a : Addr} {vs : List V} {ds : List D} (h1 : Rd H a (.tup vs)) (h2 : RpL G F H ds vs) {K : PySem.W.Frag} : ItOk G (Itt K a) ds B F H := fun F' H' s i => by
  have q1 : Rd H' a (.tup vs) := s.ht a vs h1
  have q2 : RpL G F' H' ds vs := RpL.mono s ds vs h2
  refine ⟨fun d hd => ?_, fun hl => ⟨vs, .inl q1, by rw [← q2.length]; exact hl⟩⟩
  obtain ⟨v, hv, rv⟩ := q2.get hd
  exact ⟨⟨vs, v, .inl q1, hv⟩, fun x H'' ⟨e, y⟩ => by
    subst e
    have z := y vs (.inl q1)
    rw [hv] at z
    cases z
    exact ⟨Stp.refl, fun _ _ h => h, rv⟩⟩
end
end DL

set_option Elab.async false
set_option linter.all false
set_option maxRecDepth 100000
set_option maxHeartbeats 2000000
namespace DL
open PySem PySem.Spec PyProof.Rows L2
variable [Tbs]
section
variable {G : Gx} {B F : Addr → Prop} {H : Hp} {a : Addr} {vs : List V} {ds : List D} {K : PySem.W.Frag}
theorem ok_lst (hF : F a) (h1 : H a = some (.lst vs)) (h2 : RpL G F H ds vs) : ItOk G (Itl K a) ds B F H := fun F' H' s i => by
  have q1 : H' a = some (.lst vs) := s.hk a _ (.inr hF) h1
  have q2 : RpL G F' H' ds vs := RpL.mono s ds vs h2
  refine ⟨fun d hd => ?_, fun hl => ⟨vs, SqL.of q1, by rw [← q2.length]; exact hl⟩⟩
  obtain ⟨v, hv, rv⟩ := q2.get hd
  exact ⟨⟨vs, v, SqL.of q1, hv⟩, fun x H'' ⟨e, y⟩ => by
    subst e
    have z := y vs (SqL.of q1)
    rw [hv] at z
    cases z
    exact ⟨Stp.refl, fun _ _ h => h, rv⟩⟩
theorem scr_get {ns : List Int} {i : Nat} {d : D} (h : (ns.map D.int)[i]? = some d) : ∃ n, d = .int n ∧ (ns.map V.int)[i]? = some (.int n) := by
  rw [List.getElem?_map] at h
  cases e : ns[i]? with
  | none => rw [e] at h; cases h
  | some n =>
    rw [e] at h
    cases h
    exact ⟨n, rfl, by rw [List.getElem?_map, e]; rfl⟩
theorem scr_sq {ns : List Int} (h : (F a ∧ Rd H a (.lst (ns.map V.int))) ∨ ∀ H', SqL G.K H' a (ns.map V.int)) {F' : Addr → Prop} {H' : Hp} (s : Stp B F H F' H') : SqL G.K H' a (ns.map V.int) := by
  rcases h with ⟨hF, h⟩ | h
  · exact .inl (h.imp (s.hk a _ (.inr hF)) fun ⟨o, q⟩ => ⟨o, s.hk a _ (.inr hF) q⟩)
  · exact h H'
theorem ok_scr {ns : List Int} (h : (F a ∧ Rd H a (.lst (ns.map V.int))) ∨ ∀ H', SqL G.K H' a (ns.map V.int)) : ItOk G (Itl G.K a) (ns.map .int) B F H := fun F' H' s i => by
  have q1 := scr_sq h s
  refine ⟨fun d hd => ?_, fun hl => ⟨_, q1, by rw [List.length_map] at hl ⊢; exact hl⟩⟩
  obtain ⟨n, e, hn⟩ := scr_get hd
  subst e
  exact ⟨⟨_, _, q1, hn⟩, fun x H'' ⟨e, y⟩ => by
    subst e
    have z := y _ q1
    rw [hn] at z
    cases z
    exact ⟨Stp.refl, fun _ _ h => h, rfl⟩⟩
theorem range_get {lo hi : Int} {i : Nat} {d : D} (h : (rangeL lo hi)[i]? = some d) : i < (hi - lo).toNat ∧ d = .int (lo + (i : Nat)) := by
  unfold rangeL at h
  rw [List.getElem?_map] at h
  cases e : (List.range (hi - lo).toNat)[i]? with
  | none => rw [e] at h; cases h
  | some n =>
    rw [e] at h
    obtain ⟨h1, h2⟩ := List.getElem?_eq_some_iff.mp e
    rw [List.length_range] at h1
    rw [List.getElem_range] at h2
    subst h2
    exact ⟨h1, (Option.some.inj h).symm⟩
theorem rangeL_length {lo hi : Int} : (rangeL lo hi).length = (hi - lo).toNat := by unfold rangeL; rw [List.length_map, List.length_range]
theorem ok_rng {lo hi : Int} : ItOk G (Itr lo (hi - lo).toNat) (rangeL lo hi) B F H := fun F' H' s i => by
  refine ⟨fun d hd => ?_, fun hl => by rw [rangeL_length] at hl; exact hl⟩
  obtain ⟨h1, h2⟩ := range_get hd
  subst h2
  exact ⟨h1, fun x H'' ⟨e, y⟩ => by subst e; subst y; exact ⟨Stp.refl, fun _ _ h => h, rfl⟩⟩
theorem numbered_get {i : Nat} {d : D} (h : (numbered ds)[i]? = some d) : ∃ e, ds[i]? = some e ∧ d = .pr [.int (i : Nat), e] := by
  unfold numbered at h
  rw [List.getElem?_map, List.getElem?_zipIdx] at h
  cases e : ds[i]? with
  | none => rw [e] at h; cases h
  | some n =>
    rw [e] at h
    refine ⟨n, rfl, (Option.some.inj h).symm.trans ?_⟩
    simp
theorem numbered_length : (numbered ds).length = ds.length := by unfold numbered; rw [List.length_map, List.length_zipIdx]
theorem keep_upd {p : Addr} {o : HO} (hp : H p = none) : ∀ b u, H b = some u → upd H p o b = some u := fun b u e => by rw [upd_ne (ne_of_none e hp)]; exact e
theorem ok_enT (h1 : Rd H a (.tup vs)) (h2 : RpL G F H ds vs) : ItOk G (DLe.Itte K a) (numbered ds) B F H := fun F' H' s i => by
  have q1 : Rd H' a (.tup vs) := s.ht a vs h1
  have q2 : RpL G F' H' ds vs := RpL.mono s ds vs h2
  refine ⟨fun d hd => ?_, fun hl => ⟨vs, .inl q1, by rw [numbered_length] at hl; rw [← q2.length]; exact hl⟩⟩
  obtain ⟨e, he, ed⟩ := numbered_get hd
  subst ed
  obtain ⟨v, hv, rv⟩ := q2.get he
  refine ⟨⟨vs, v, .inl q1, hv⟩, fun x H'' ⟨T, y, ex, hT, eH, hy⟩ => ?_⟩
  subst ex eH
  have z := hy vs (.inl q1)
  rw [hv] at z
  cases z
  have st : Stp B F' H' F' (upd H' T (.tup [.int (i : Nat), v])) := stp_new hT
  exact ⟨st, keep_upd hT, T, _, rfl, .inl upd_same, _, _, rfl, rfl, _, _, rfl, Rp.mono st e v rv, rfl⟩
theorem ok_enL (hF : F a) (h1 : H a = some (.lst vs)) (h2 : RpL G F H ds vs) : ItOk G (Ite K a) (numbered ds) B F H := fun F' H' s i => by
  have q1 : H' a = some (.lst vs) := s.hk a _ (.inr hF) h1
  have q2 : RpL G F' H' ds vs := RpL.mono s ds vs h2
  refine ⟨fun d hd => ?_, fun hl => ⟨vs, SqL.of q1, by rw [numbered_length] at hl; rw [← q2.length]; exact hl⟩⟩
  obtain ⟨e, he, ed⟩ := numbered_get hd
  subst ed
  obtain ⟨v, hv, rv⟩ := q2.get he
  refine ⟨⟨vs, v, SqL.of q1, hv⟩, fun x H'' ⟨T, y, ex, hT, eH, hy⟩ => ?_⟩
  subst ex eH
  have z := hy vs (SqL.of q1)
  rw [hv] at z
  cases z
  have st : Stp B F' H' F' (upd H' T (.tup [.int (i : Nat), v])) := stp_new hT
  exact ⟨st, keep_upd hT, T, _, rfl, .inl upd_same, _, _, rfl, rfl, _, _, rfl, Rp.mono st e v rv, rfl⟩
theorem ok_enS {ns : List Int} (h : (F a ∧ Rd H a (.lst (ns.map V.int))) ∨ ∀ H', SqL G.K H' a (ns.map V.int)) : ItOk G (Ite G.K a) (numbered (ns.map .int)) B F H := fun F' H' s i => by
  have q1 := scr_sq h s
  refine ⟨fun d hd => ?_, fun hl => ⟨_, q1, by rw [numbered_length, List.length_map] at hl; rw [List.length_map]; exact hl⟩⟩
  obtain ⟨e, he, ed⟩ := numbered_get hd
  subst ed
  obtain ⟨n, ee, hv⟩ := scr_get he
  subst ee
  refine ⟨⟨_, _, q1, hv⟩, fun x H'' ⟨T, y, ex, hT, eH, hy⟩ => ?_⟩
  subst ex eH
  have z := hy _ q1
  rw [hv] at z
  cases z
  exact ⟨stp_new hT, keep_upd hT, T, _, rfl, .inl upd_same, _, _, rfl, rfl, _, _, rfl, rfl, rfl⟩
theorem signs_get {s : Str} {i : Nat} {d : D} (h : (signs s)[i]? = some d) : ∃ c, s.cps[i]? = some c ∧ d = .str ⟨#[c]⟩ := by
  unfold signs at h
  rw [List.getElem?_map] at h
  cases e : s.cps.toList[i]? with
  | none => rw [e] at h; cases h
  | some c =>
    rw [e] at h
    exact ⟨c, by simpa using e, (Option.some.inj h).symm⟩
theorem ok_str {s : Str} : ItOk G (Its s) (signs s) B F H := fun F' H' st i => by
  have w := walk_str (z := s)
  refine ⟨fun d hd => ?_, fun hl => ?_⟩
  · obtain ⟨c, hc, ed⟩ := signs_get hd
    subst ed
    have hi : i < s.cps.size := (Array.getElem?_eq_some_iff.mp hc).1
    refine ⟨w.goes i H' hi trivial, fun x H'' y => ?_⟩
    obtain ⟨e, c', hc', ex⟩ := w.yields i H' x H'' hi trivial y
    rw [hc] at hc'
    cases hc'
    subst e ex
    exact ⟨Stp.refl, fun _ _ h => h, rfl⟩
  · have hl' : s.cps.size ≤ i := by
      unfold signs at hl
      rw [List.length_map] at hl
      simpa using hl
    first | exact w.stops i H' hl' trivial | exact hl'
end
section
variable {X : Cx} {C : Addr} {W : WX} {e tg : Expr} {es : List Expr} {m k : M Fl} {md : M D} {ms : M (List D)} {mt : M Bool} {p pos tpos : Pos} {is : List Nat}
theorem i_tup (he : PE X e (tD (gx X C) W md)) : PI X tg e (tI (gx X C) W (bnd md itTup)) := piImp (pi_tup he) fun σ H Q h => (lift1 (Ra := RD (gx X C)) h).imp fun x H1 ⟨B, F, env, d, q, r⟩ => by
  cases d with
  | tup ds => obtain ⟨a, vs, e0, h1, h2⟩ := r; exact ⟨a, e0, ⟨vs, .inl h1.rd⟩, Pt.pure (c := ds) q (ok_tup h1.rd h2)⟩
  | pr ds => obtain ⟨a, vs, e0, h1, h2⟩ := r; exact ⟨a, e0, ⟨vs, .inl h1⟩, Pt.pure (c := ds) q (ok_tup h1 h2)⟩
  | _ => exact (Pt.no q).elim
theorem i_lst (he : PE X e (tD (gx X C) W md)) : PI X tg e (tI (gx X C) W (bnd md itLst)) := piImp (pi_list he) fun σ H Q h => (lift1 (Ra := RD (gx X C)) h).imp fun x H1 ⟨B, F, env, d, q, r⟩ => by
  cases d with
  | lst ds => obtain ⟨a, vs, e0, hF, h1, h2⟩ := r; exact ⟨a, e0, ⟨vs, SqL.of h1⟩, Pt.pure (c := ds) q (ok_lst hF h1 h2)⟩
  | scr ns => obtain ⟨a, e0, h⟩ := r; exact ⟨a, e0, ⟨_, scr_sq (B := B) h Stp.refl⟩, Pt.pure (c := ns.map D.int) q (ok_scr h)⟩
  | _ => exact (Pt.no q).elim
theorem i_str (he : PE X e (tD (gx X C) W md)) : PI X tg e (tI (gx X C) W (bnd md itStr)) := piImp (pi_str he) fun σ H Q h => (lift1 (Ra := RD (gx X C)) h).imp fun x H1 ⟨B, F, env, d, q, r⟩ => by
  cases d with
  | str s => exact ⟨s, r, Pt.pure (c := signs s) q ok_str⟩
  | _ => exact (Pt.no q).elim
theorem i_rng1 {a : Expr} (hg : Gl X "range") (hm : X.mg "range" = none) (ha : PA X [a] (tDs (gx X C) W ms)) (hs : starEach [a] X.env = [(false, eval a X.env)] := by rfl) : PI X tg (.Call (.Name "range" p) [a] [] pos) (tI (gx X C) W (bnd ms itR1)) :=
  piImp (pi_range1 hg hm ha hs) fun σ H Q h => (lift1 (Ra := RDs (gx X C)) h).imp fun xs H1 ⟨B, F, env, ds, q, r⟩ => by
    cases ds with
    | nil => exact (Pt.no q).elim
    | cons d ds => cases ds with
      | nil => cases d with
        | int j =>
          obtain ⟨v, r', e0, rv, rn⟩ := r
          cases (show _ = _ from rn)
          obtain ⟨⟨b1, b2⟩, q⟩ := Pt.asked q
          refine ⟨j, by rw [e0]; exact congrArg (fun z => [z]) rv, b1, b2, ?_⟩
          have z := Pt.pure (c := rangeL 0 j) q (b := Itr 0 (j - 0).toNat) ok_rng
          rw [Int.sub_zero] at z
          exact z
        | _ => exact (Pt.no q).elim
      | cons _ _ => cases d <;> exact (Pt.no q).elim
theorem i_rng2 {a b : Expr} (hg : Gl X "range") (hm : X.mg "range" = none) (ha : PA X [a, b] (tDs (gx X C) W ms)) (hs : starEach [a, b] X.env = [(false, eval a X.env), (false, eval b X.env)] := by rfl) (hs2 : starEach [b] X.env = [(false, eval b X.env)] := by rfl) :
    PI X tg (.Call (.Name "range" p) [a, b] [] pos) (tI (gx X C) W (bnd ms itR2)) :=
  piImp (pi_range2 hg hm ha hs hs2) fun σ H Q h => (lift1 (Ra := RDs (gx X C)) h).imp fun xs H1 ⟨B, F, env, ds, q, r⟩ => by
    match ds, q, r with
    | [.int i, .int j], q, ⟨v, r', e0, rv, v2, r2, e2, rv2, rn⟩ =>
      cases (show _ = _ from rn)
      cases (show _ = _ from rv)
      cases (show _ = _ from rv2)
      subst e2
      obtain ⟨b1, q⟩ := Pt.asked q
      exact ⟨i, j, e0, b1, Pt.pure (c := rangeL i j) q ok_rng⟩
    | [], q, _ => exact (Pt.no q).elim
    | [d], q, _ => cases d <;> exact (Pt.no q).elim
    | d :: d2 :: d3 :: _, q, _ => cases d <;> cases d2 <;> exact (Pt.no q).elim
    | [.non, _], q, _ => exact (Pt.no q).elim
    | [.bl _, _], q, _ => exact (Pt.no q).elim
    | [.str _, _], q, _ => exact (Pt.no q).elim
    | [.byt _, _], q, _ => exact (Pt.no q).elim
    | [.tup _, _], q, _ => exact (Pt.no q).elim
    | [.pr _, _], q, _ => exact (Pt.no q).elim
    | [.lst _, _], q, _ => exact (Pt.no q).elim
    | [.hall _ _, _], q, _ => exact (Pt.no q).elim
    | [.scr _, _], q, _ => exact (Pt.no q).elim
    | [.emp, _], q, _ => exact (Pt.no q).elim
    | [.exn _ _ _, _], q, _ => exact (Pt.no q).elim
    | [.int _, .non], q, _ => exact (Pt.no q).elim
    | [.int _, .bl _], q, _ => exact (Pt.no q).elim
    | [.int _, .str _], q, _ => exact (Pt.no q).elim
    | [.int _, .byt _], q, _ => exact (Pt.no q).elim
    | [.int _, .tup _], q, _ => exact (Pt.no q).elim
    | [.int _, .pr _], q, _ => exact (Pt.no q).elim
    | [.int _, .lst _], q, _ => exact (Pt.no q).elim
    | [.int _, .hall _ _], q, _ => exact (Pt.no q).elim
    | [.int _, .scr _], q, _ => exact (Pt.no q).elim
    | [.int _, .emp], q, _ => exact (Pt.no q).elim
    | [.int _, .exn _ _ _], q, _ => exact (Pt.no q).elim
theorem i_enT {kk : Nat} (hg : Gl X "enumerate") (hm : X.mg "enumerate" = none) (ha : PA X [e] (tDs (gx X C) W ms)) (hs : starEach [e] X.env = [(false, eval e X.env)] := by rfl) : PI X (.Tuple es kk tpos) (.Call (.Name "enumerate" p) [e] [] pos) (tI (gx X C) W (bnd ms enTup)) :=
  piImp (DLe.pi_enT hg hm ha hs) fun σ H Q h => (lift1 (Ra := RDs (gx X C)) h).imp fun xs H1 ⟨B, F, env, ds, q, r⟩ => by
    cases ds with
    | nil => exact (Pt.no q).elim
    | cons d ds => cases ds with
      | nil => cases d with
        | tup ds =>
          obtain ⟨v, r', e0, ⟨a, vs, ev, h1, h2⟩, rn⟩ := r
          cases (show _ = _ from rn)
          subst ev
          exact ⟨a, vs, e0, .inl h1.rd, Pt.pure (c := numbered ds) q (ok_enT h1.rd h2)⟩
        | _ => exact (Pt.no q).elim
      | cons _ _ => cases d <;> exact (Pt.no q).elim
theorem i_enL {kk : Nat} (hg : Gl X "enumerate") (hm : X.mg "enumerate" = none) (ha : PA X [e] (tDs (gx X C) W ms)) (hs : starEach [e] X.env = [(false, eval e X.env)] := by rfl) : PI X (.Tuple es kk tpos) (.Call (.Name "enumerate" p) [e] [] pos) (tI (gx X C) W (bnd ms enLst)) :=
  piImp (pi_enum hg hm ha hs) fun σ H Q h => (lift1 (Ra := RDs (gx X C)) h).imp fun xs H1 ⟨B, F, env, ds, q, r⟩ => by
    cases ds with
    | nil => exact (Pt.no q).elim
    | cons d ds => cases ds with
      | nil => cases d with
        | lst ds =>
          obtain ⟨v, r', e0, ⟨a, vs, ev, hF, h1, h2⟩, rn⟩ := r
          cases (show _ = _ from rn)
          subst ev
          exact ⟨a, vs, e0, SqL.of h1, Pt.pure (c := numbered ds) q (ok_enL hF h1 h2)⟩
        | scr ns =>
          obtain ⟨v, r', e0, ⟨a, ev, h⟩, rn⟩ := r
          cases (show _ = _ from rn)
          subst ev
          exact ⟨a, _, e0, scr_sq (B := B) h Stp.refl, Pt.pure (c := numbered (ns.map D.int)) q (ok_enS h)⟩
        | _ => exact (Pt.no q).elim
      | cons _ _ => cases d <;> exact (Pt.no q).elim

/-! ### for -/
def loopK (again : M Fl) : Fl → M Fl
  | .nx => again
  | .ct => again
  | .bk => ret .nx
  | .rt r => ret (.rt r)
def forL (tg : D → M Unit) (body : M Fl) : List D → M Fl
  | [] => ret .nx
  | d :: ds => bnd (tg d) fun _ => bnd body (loopK (forL tg body ds))
def forM (items : M (List D)) (tg : D → M Unit) (body : M Fl) : M Fl := bnd items (forL tg body)
theorem s_for {iter : Expr} {body : List Stmt} {k : D → M Unit} (hp : PassesOwn (model X.prog X.w) X.A X.env X.xe) (hc : X.calm = true) (hi : PI X tg iter (tI (gx X C) W ms)) (hg : PG X tg (tTo (gx X C) is k)) (hb : PSs X body (tS (gx X C) W m))
    (nox : ∀ d env Q E, k d env Q E → k d env Q (fun _ _ => False)) (hs : ∀ x, foldedSetIterable iter X.env x = pure x := by intro _; rfl) : PS X (.For tg iter body [] pos) (tS (gx X C) W (forM ms k m)) :=
  psImp (ps_for hp hc hi hg hb hs) fun Z σ H ⟨B, F, env, h⟩ => (h.bind (Ra := RI (gx X C)) (as := []) (xs := [])).imp fun J H1 ⟨F1, env1, ds, ⟨Qd, Ed, rel, hm, h1, h2, h3, h4, h5⟩, it⟩ => by
    refine ⟨fun i m' σ' H' => m' = ds.length - i ∧ i ≤ ds.length ∧ ∃ F' env', Rel (gx X C) B F' σ' env' H' ∧ Stp B F1 H1 F' H' ∧ forL k m (ds.drop i) env' Qd Ed, ⟨_, rfl, Nat.zero_le _, F1, env1, rel, Stp.refl, hm⟩, ?_⟩
    rintro i m' σ2 H2 ⟨rfl, hi, F2, env2, rel2, st2, hm2⟩
    obtain ⟨go, stop⟩ := it F2 H2 st2 i
    by_cases hl : i < ds.length
    · refine .inr ⟨(go ds[i] (List.getElem?_eq_getElem hl)).1, fun σ' H' => i + 1 ≤ ds.length ∧ ∃ F' env', Rel (gx X C) B F' σ' env' H' ∧ Stp B F1 H1 F' H' ∧ forL k m (ds.drop (i + 1)) env' Qd Ed, fun σ' H' ⟨a, b⟩ => ⟨_, by omega, rfl, a, b⟩, fun x H3 y => ?_⟩
      obtain ⟨st3, kp, rx⟩ := (go ds[i] (List.getElem?_eq_getElem hl)).2 x H3 y
      have rel3 : Rel (gx X C) B F2 σ2 env2 H3 := rel2.step st3 (fun j a o => ⟨by
        obtain ⟨n, _, _⟩ := rel2.ownSome o
        cases e : H2 a with
        | none => exact absurd e n
        | some u => exact kp a u e, (rel2.ownSome o).2.1⟩) fun a z => st3.hs a (.inr z) (rel2.hF a z)
      have hm3 : forL k m (ds[i] :: ds.drop (i + 1)) env2 Qd Ed := by
        rw [← List.drop_eq_getElem_cons hl]; exact hm2
      refine ⟨B, F2, env2, ds[i], fun env' => m env' (fun f env'' => loopK (forL k m (ds.drop (i + 1))) f env'' Qd Ed) Ed, rel3, rx, nox _ _ _ _ hm3, fun env' σ' q rl _ _ => ?_⟩
      refine ⟨B, F2, env', fun f env'' => loopK (forL k m (ds.drop (i + 1))) f env'' Qd Ed, Ed, rl, q, ?_, ?_, ?_, ?_, ?_⟩
      · exact fun e s4 F4 H4 q4 st4 rl4 => ⟨hl, F4, e, rl4, (st2.trans st3).trans st4, q4⟩
      · exact fun e s4 F4 H4 q4 st4 rl4 => h1 e s4 F4 H4 q4 ((st2.trans st3).trans st4) rl4
      · exact fun e s4 F4 H4 q4 st4 rl4 => ⟨hl, F4, e, rl4, (st2.trans st3).trans st4, q4⟩
      · exact fun r e s4 F4 H4 v q4 st4 rl4 rr => h4 r e s4 F4 H4 v q4 ((st2.trans st3).trans st4) rl4 rr
      · exact fun x e s4 c d F4 H4 q4 st4 rl4 rr => h5 x e s4 c d F4 H4 q4 ((st2.trans st3).trans st4) rl4 rr
    · have e : i = ds.length := by omega
      subst e
      rw [List.drop_length] at hm2
      exact .inl ⟨stop (Nat.le_refl _), h1 env2 σ2 F2 H2 hm2 st2 rel2⟩
end
end DL

set_option Elab.async false
set_option linter.all false
set_option maxRecDepth 100000
set_option maxHeartbeats 2000000
namespace DL
open PySem PySem.Spec PyProof.Rows L2
variable [Tbs]
/-! ### comprehensions -/
def wipeE (env : List Slot) : List Nat → List Slot
  | [] => env
  | v :: vs => (wipeE env vs).set v .no
def oldS (env0 : List Slot) (v : Nat) : Slot := match env0[v]? with
  | some (.im d) => .im d
  | _ => .no
def backE (env0 env : List Slot) : List Nat → List Slot
  | [] => env
  | v :: vs => (backE env0 env vs).set v (oldS env0 v)
theorem wipe_out {σ : L2.St} {j : Nat} : ∀ {vs : List Nat}, j ∉ vs → (wipe σ vs)[j]? = σ[j]?
  | [], _ => rfl
  | v :: vs, h => by
    show ((wipe σ vs).set v none)[j]? = _
    rw [List.getElem?_set_ne fun z => h (by simp [z]), wipe_out fun z => h (List.mem_cons_of_mem _ z)]
theorem wipe_in {σ : L2.St} {j : Nat} : ∀ {vs : List Nat}, j ∈ vs → j < σ.length → (wipe σ vs)[j]? = some none
  | [], h, _ => by cases h
  | v :: vs, h, l => by
    show ((wipe σ vs).set v none)[j]? = _
    by_cases e : v = j
    · subst e
      rw [List.getElem?_set_self (by rw [wipe_length]; exact l)]
    · rw [List.getElem?_set_ne e]
      exact wipe_in ((List.mem_cons.mp h).elim (fun z => absurd z.symm e) id) l
theorem wipe_eq {σ σ' : L2.St} {vs : List Nat} (hl : σ'.length = σ.length) (h : ∀ j, j ∉ vs → σ'[j]? = σ[j]?) : wipe σ' vs = wipe σ vs := by
  refine List.ext_getElem? fun j => ?_
  by_cases hj : j ∈ vs
  · by_cases l : j < σ.length
    · rw [wipe_in hj l, wipe_in hj (by omega)]
    · rw [List.getElem?_eq_none (by rw [wipe_length]; omega), List.getElem?_eq_none (by rw [wipe_length]; omega)]
  · rw [wipe_out hj, wipe_out hj, h j hj]
theorem wipe_same {σ σ' : L2.St} {vs : List Nat} (h : wipe σ' vs = wipe σ vs) {j : Nat} (hj : j ∉ vs) : σ'[j]? = σ[j]? := by
  rw [← wipe_out (σ := σ') hj, h, wipe_out hj]
theorem wipe_wipe {σ : L2.St} {vs : List Nat} : wipe (wipe σ vs) vs = wipe σ vs := wipe_eq (wipe_length ..) fun j hj => wipe_out hj
theorem backE_len {e0 e : List Slot} : ∀ {vs : List Nat}, (backE e0 e vs).length = e.length
  | [] => rfl
  | v :: vs => by show ((backE e0 e vs).set v _).length = _; rw [List.length_set, backE_len]
theorem backE_out {e0 e : List Slot} {j : Nat} : ∀ {vs : List Nat}, j ∉ vs → (backE e0 e vs)[j]? = e[j]?
  | [], _ => rfl
  | v :: vs, h => by
    show ((backE e0 e vs).set v _)[j]? = _
    rw [List.getElem?_set_ne fun z => h (by simp [z]), backE_out fun z => h (List.mem_cons_of_mem _ z)]
theorem backE_in {e0 e : List Slot} {j : Nat} {s : Slot} : ∀ {vs : List Nat}, j ∈ vs → (backE e0 e vs)[j]? = some s → s = oldS e0 j
  | [], h, _ => by cases h
  | v :: vs, h, q => by
    have q : ((backE e0 e vs).set v (oldS e0 v))[j]? = some s := q
    by_cases z : v = j
    · subst z
      have hl : v < (backE e0 e vs).length := by
        have := (List.getElem?_eq_some_iff.mp q).1
        rw [List.length_set] at this; exact this
      rw [List.getElem?_set_self hl] at q
      exact (Option.some.inj q).symm
    · rw [List.getElem?_set_ne z] at q
      exact backE_in ((List.mem_cons.mp h).elim (fun z' => absurd z'.symm z) id) q
section
variable {G : Gx} {B B' F F' F0 : Addr → Prop} {σ σ2 : L2.St} {H H' H0 : Hp} {env env0 : List Slot}
theorem Rel.wipe (rel : Rel G B F σ env H) : ∀ vs : List Nat, Rel G B F (L2.wipe σ vs) (wipeE env vs) H
  | [] => rel
  | v :: vs => (Rel.wipe rel vs).drop v none
theorem Rel.back (rel0 : Rel G B F0 σ env0 H0) (st : Stp B F0 H0 F H) {vs : List Nat} (rel : Rel G B F σ2 env H) (hw : L2.wipe σ2 vs = L2.wipe σ vs) : Rel G B F σ (backE env0 env vs) H := by
  have hl : σ2.length = σ.length := by have := congrArg List.length hw; rwa [wipe_length, wipe_length] at this
  refine ⟨by rw [backE_len, rel.len, hl], fun j s e => ?_, fun i j a h1 h2 => ?_, rel.hB, rel.hF, rel.tb⟩
  · by_cases hj : j ∈ vs
    · have es := backE_in hj e
      subst es
      unfold oldS
      cases q : env0[j]? with
      | none => trivial
      | some s =>
        cases s with
        | im d => obtain ⟨v, h1, h2⟩ := rel0.sl j _ q; exact ⟨v, h1, Rp.mono st d v h2⟩
        | _ => trivial
    · rw [backE_out hj] at e
      rw [← wipe_same hw hj]
      exact rel.sl j s e
  · have back : ∀ k, OwnAt (backE env0 env vs) σ k a → OwnAt env σ2 k a := fun k ⟨⟨s, e, o⟩, q⟩ => by
      by_cases hk : k ∈ vs
      · have es := backE_in hk e
        subst es
        unfold oldS at o
        cases z : env0[k]? with
        | none => rw [z] at o; cases o
        | some s => rw [z] at o; cases s <;> cases o
      · rw [backE_out hk] at e
        exact ⟨⟨s, e, o⟩, by rw [wipe_same hw hk]; exact q⟩
    exact rel.ap i j a (back i h1) (back j h2)
theorem Stp.less (s : Stp B' F H F' H') (h : ∀ a, B a → B' a) : Stp B F H F' H' := ⟨s.fm, fun a q => (s.fn a q).imp id fun n z => n (h a z), fun a o q => s.hk0 a o (q.imp (h a) id), s.ht, s.tb⟩
/-- one more address that nobody owns -/
theorem Rel.more (rel : Rel G B F σ env H) {p : Addr} (hp : Nt H p) (hn : ∀ i, ¬ OwnAt env σ i p) : Rel G (fun a => B a ∨ a = p) F σ env H := by
  refine ⟨rel.len, fun i s e => ?_, rel.ap, fun a h => h.elim (rel.hB a) fun z => by rw [z]; exact hp, rel.hF, rel.tb⟩
  have q := rel.sl i s e
  cases s with
  | no => trivial
  | im d => exact q
  | ow o => obtain ⟨a, h1, h2, h3, h4⟩ := q; exact ⟨a, h1, h2, fun z => z.elim h3 fun w => by subst w; exact hn i ⟨⟨_, e, rfl⟩, h1⟩, h4⟩
  | io a o => obtain ⟨h1, h2, h3, h4⟩ := q; exact ⟨h1, h2, fun z => z.elim h3 fun w => by subst w; exact hn i ⟨⟨_, e, rfl⟩, h1⟩, h4⟩
theorem Rel.less (rel : Rel G B' F σ env H) (h : ∀ a, B a → B' a) : Rel G B F σ env H := by
  refine ⟨rel.len, fun i s e => ?_, rel.ap, fun a q => rel.hB a (h a q), rel.hF, rel.tb⟩
  have q := rel.sl i s e
  cases s with
  | no => trivial
  | im d => exact q
  | ow o => obtain ⟨a, h1, h2, h3, h4⟩ := q; exact ⟨a, h1, h2, fun z => h3 (h a z), h4⟩
  | io a o => obtain ⟨h1, h2, h3, h4⟩ := q; exact ⟨h1, h2, fun z => h3 (h a z), h4⟩
end
def compL (tg : D → M Unit) (vs : List Nat) (cond : M Bool) (elt : M D) : List D → List D → M (List D)
  | [], acc => ret acc
  | d :: ds, acc => fun env Q E => bnd (tg d) (fun _ => bnd cond fun c => if c = true then bnd elt fun y => ask (acc.length < sizeLine) (compL tg vs cond elt ds (acc ++ [y])) else compL tg vs cond elt ds acc) (wipeE env vs) Q E
/-- [elt for tg in items if cond] -/
def compM (items : M (List D)) (tg : D → M Unit) (vs : List Nat) (cond : M Bool) (elt : M D) : M O := fun env Q E =>
  items env (fun ds env1 => compL tg vs cond elt ds [] env1 (fun acc env2 => Q (.lst acc) (backE env1 env2 vs)) fun _ _ => False) E
abbrev W0 : WX := fun _ _ _ _ => False

section
variable {X : Cx} {C : Addr} {W : WX} {tg iter elt : Expr} {ifs : List Expr} {is : List Nat} {scope : Scope} {own : List (Str × Nat)} {pos : Pos} {ms : M (List D)} {mt : M Bool} {md : M D}
theorem ptsImp {X : Cx} {ifs : List Expr} {t t' : TT} (h : PTs X ifs t) (i : ∀ σ H Q, t' σ H Q → t σ H Q) : PTs X ifs t' := ⟨fun pins s σ H Q I q => h.run pins s σ H Q I (i σ H Q q)⟩
theorem c_yes : PTs X [] (tBl (gx X C) W (ret true)) := ptsImp pts_nil fun σ H Q ⟨B, F, env, h⟩ => h.pure rfl
theorem c_if {c : Expr} (h : PT X c (tBl (gx X C) W mt)) : PTs X [c] (tBl (gx X C) W mt) := pts_one h
/-- the reading of a comprehension -/
theorem comp_reads {k : D → M Unit} {σ : L2.St} {H : Hp} {Q : V → Hp → Prop} (hsub : ∀ i ∈ is, i ∈ own.map (·.2)) (nox : ∀ d env Q E, k d env Q E → k d env Q (fun _ _ => False))
    (h : tO (gx X C) W (compM ms k (own.map (·.2)) mt md) σ H Q) : tLc (tI (gx X C) W ms) (tTo (gx X C) is k) (tBl (gx X C) W0 mt) (tD (gx X C) W0 md) (own.map (·.2)) σ H Q := by
  generalize own.map (·.2) = vs at hsub h
  obtain ⟨B, F, env, Qd, Ed, rel, hm, hq, he⟩ := h
  refine ⟨B, F, env, _, Ed, rel, hm, fun ds env1 J F1 H1 hc st1 rel1 it D hD => ?_, fun x env' cls d F' H' q st rl r => he x env' cls d F' H' q st rl r⟩
  have nB : ¬ B D := rel1.notB hD
  have nF : ¬ F1 D := rel1.notF hD
  -- the invariant
  refine ⟨fun i m H2 => m = ds.length - i ∧ i ≤ ds.length ∧ ∃ F2 σ2 env2 accD acc, H2 D = some (.lst acc) ∧ RpL (gx X C) F2 H2 accD acc ∧ Rel (gx X C) (fun a => B a ∨ a = D) F2 σ2 env2 H2 ∧ wipe σ2 vs = wipe σ vs ∧ Stp B F1 H1 F2 H2 ∧ ¬ F2 D ∧
    compL k vs mt md (ds.drop i) accD env2 (fun acc env2 => Qd (.lst acc) (backE env1 env2 vs)) (fun _ _ => False),
    ⟨_, rfl, Nat.zero_le _, F1, σ, env1, [], [], upd_same, rfl, (rel1.new hD).more (Nt.of upd_same) (fun i o => (rel1.ownSome o).1 hD), rfl, stp_new hD, nF, hc⟩, ?_⟩
  rintro i m H2 ⟨rfl, hi, F2, σ2, env2, accD, acc, eD, racc, rel2, hw, st2, nF2, hc2⟩
  have stB : ∀ {F3 H3}, Stp (fun a => B a ∨ a = D) F2 H2 F3 H3 → Stp B F2 H2 F3 H3 := fun s => s.less fun _ z => .inl z
  obtain ⟨go, stop⟩ := it F2 H2 st2 i
  by_cases hl : i < ds.length
  · obtain ⟨g1, g2⟩ := go ds[i] (List.getElem?_eq_getElem hl)
    refine .inr ⟨g1, fun H' => i + 1 ≤ ds.length ∧ ∃ F2 σ2 env2 accD acc, H' D = some (.lst acc) ∧ RpL (gx X C) F2 H' accD acc ∧ Rel (gx X C) (fun a => B a ∨ a = D) F2 σ2 env2 H' ∧ wipe σ2 vs = wipe σ vs ∧ Stp B F1 H1 F2 H' ∧ ¬ F2 D ∧
      compL k vs mt md (ds.drop (i + 1)) accD env2 (fun acc env2 => Qd (.lst acc) (backE env1 env2 vs)) (fun _ _ => False), fun H' ⟨a, b⟩ => ⟨_, by omega, rfl, a, b⟩, fun x H3 y => ?_⟩
    obtain ⟨st3, kp, rx⟩ := g2 x H3 y
    have st3' : Stp (fun a => B a ∨ a = D) F2 H2 F2 H3 := stp_keep kp
    have rel3 : Rel (gx X C) (fun a => B a ∨ a = D) F2 (wipe σ vs) (wipeE env2 vs) H3 := by
      rw [← hw]
      refine (rel2.step st3' (fun j a o => ⟨?_, (rel2.ownSome o).2.1⟩) fun a z => st3'.hs a (.inr z) (rel2.hF a z)).wipe vs
      obtain ⟨n, _, _⟩ := rel2.ownSome o
      cases e : H2 a with
      | none => exact absurd e n
      | some u => exact kp a u e
    have hc3 : compL k vs mt md (ds[i] :: ds.drop (i + 1)) accD env2 (fun acc env2 => Qd (.lst acc) (backE env1 env2 vs)) (fun _ _ => False) := by
      rw [← List.drop_eq_getElem_cons hl]; exact hc2
    have racc3 : RpL (gx X C) F2 H3 accD acc := RpL.mono st3 _ _ racc
    refine ⟨fun a => B a ∨ a = D, F2, _, ds[i], _, rel3, rx, nox _ _ _ _ hc3, fun env4 σ4 q4 rel4 hl4 ho4 => ?_⟩
    have hw4 : wipe σ4 vs = wipe σ vs := (wipe_eq hl4 fun j hj => ho4 j fun z => hj (hsub j z)).trans wipe_wipe
    refine ⟨hw4, fun a => B a ∨ a = D, F2, env4, _, _, rel4, q4, fun c env5 b F5 H5 q5 st5 rel5 rb => ?_, fun x env' cls d F' H' q st rl r => (show False from q).elim⟩
    cases (show c = b from rb)
    have hD5 : H5 D = some (.lst acc) := st5.hk D _ (.inl (.inr rfl)) (kp D _ eD)
    have nF5 : ¬ F5 D := fun z => (st5.fn D z).elim nF2 fun n => n (.inr rfl)
    have racc5 : RpL (gx X C) F5 H5 accD acc := RpL.mono st5 _ _ racc3
    have sAll : Stp B F1 H1 F5 H5 := st2.trans (st3.trans (st5.less fun _ z => .inl z))
    cases c with
    | false =>
      rw [if_neg Bool.false_ne_true] at q5 ⊢
      exact ⟨hl, F5, σ4, env5, accD, acc, hD5, racc5, rel5, hw4, sAll, nF5, q5⟩
    | true =>
      rw [if_pos rfl] at q5 ⊢
      refine ⟨fun a => B a ∨ a = D, F5, env5, _, _, rel5, q5, fun yd env6 yv F6 H6 q6 st6 rel6 ry => ?_, fun x env' cls d F' H' q st rl r => (show False from q).elim⟩
      obtain ⟨lz, q6⟩ := q6
      have hD6 : H6 D = some (.lst acc) := st6.hk D _ (.inl (.inr rfl)) hD5
      have nF6 : ¬ F6 D := fun z => (st6.fn D z).elim nF5 fun n => n (.inr rfl)
      have racc6 : RpL (gx X C) F6 H6 accD acc := RpL.mono st6 _ _ racc5
      have stw : Stp B F6 H6 F6 (upd H6 D (.lst (acc ++ [yv]))) := stp_own nF6 nB (fun vs h => by rcases h with h | ⟨o, h⟩ <;> (rw [hD6] at h; cases h)) (fun ps z => by rw [hD6] at z; cases z) fun q z => by rw [hD6] at z; have z2 : _ = HO.ext _ := Option.some.inj z; cases z2
      refine ⟨acc, hD6, by rw [← racc6.length]; exact lz, hl, F6, σ4, env6, accD ++ [yd], acc ++ [yv], upd_same, (RpL.mono stw _ _ racc6).snoc (Rp.mono stw _ _ ry), ?_, hw4, (sAll.trans (st6.less fun _ z => .inl z)).trans stw, nF6, q6⟩
      refine (Rel.more ((rel6.less fun _ z => .inl z).step stw (fun j a o => ⟨upd_ne fun z => by subst z; exact (rel6.ownSome o).2.2 (.inr rfl), (rel6.ownSome o).2.1⟩) fun a z => stw.hs a (.inr z) (rel6.hF a z)) (Nt.of upd_same) fun j o => (rel6.ownSome o).2.2 (.inr rfl))
  · have e : i = ds.length := by omega
    subst e
    rw [List.drop_length] at hc2
    refine .inl ⟨stop (Nat.le_refl _), ?_⟩
    have rel2' : Rel (gx X C) B F2 σ2 env2 H2 := rel2.less fun _ z => .inl z
    refine hq (.lst accD) (backE env1 env2 vs) (.ref D) F2 H2 hc2 (st1.trans st2) (rel1.back st2 rel2' hw) ⟨D, rfl, nF2, nB, ⟨acc, eD, racc⟩, fun j ⟨⟨s, e, o⟩, es⟩ => ?_⟩
    by_cases hj : j ∈ vs
    · have q := backE_in hj e
      subst q
      unfold oldS at o
      cases z : env1[j]? with
      | none => rw [z] at o; cases o
      | some s => rw [z] at o; cases s <;> cases o
    · rw [backE_out hj] at e
      exact (rel2.ownSome ⟨⟨s, e, o⟩, by rw [wipe_same hw hj]; exact es⟩).2.2 (.inr rfl)
theorem o_lc {k : D → M Unit} (hc : X.calm = true) (hN : X.N.Nodup) (hi : PI X tg iter (tI (gx X C) W ms)) (ok : BlkOk X.N X.env.scope scope own) (hsub : ∀ i ∈ is, i ∈ own.map (·.2)) (nox : ∀ d env Q E, k d env Q E → k d env Q (fun _ _ => False))
    (hg : ∀ (s : Shared) (H : Hp) (c : Addr) (cl : List (Str × Addr)) (fp : List Addr), PG (X.blk s H scope (compEnvC scope cl c X.env) fp) tg (tTo (gx X C) is k)) (ht : ∀ (s : Shared) (H : Hp) (c : Addr) (cl : List (Str × Addr)) (fp : List Addr), PTs (X.blk s H scope (compEnvC scope cl c X.env) fp) ifs (tBl (gx X C) W0 mt))
    (he : ∀ (s : Shared) (H : Hp) (c : Addr) (cl : List (Str × Addr)) (fp : List Addr), PE (X.blk s H scope (compEnvC scope cl c X.env) fp) elt (tD (gx X C) W0 md)) (hs : ∀ x, foldedSetIterable iter X.env x = pure x := by intro _; rfl) :
    PE X (.ListComp elt [⟨tg, iter, ifs, 0⟩] scope pos) (tO (gx X C) W (compM ms k (own.map (·.2)) mt md)) := peImp (pe_lc hc hN hi ok hg ht he hs) fun σ H Q h => comp_reads hsub nox h
/-- an object that nobody owns is a datum from here on -/
def frzM (m : M O) : M D := bnd m fun o => match o with
  | .lst ds => ret (.lst ds)
  | _ => fail
theorem e_frz {e : Expr} {mo : M O} (h : PE X e (tO (gx X C) W mo)) : PE X e (tD (gx X C) W (frzM mo)) := peImp h fun σ H Q q => (lift1 (Ra := RO (gx X C)) q).imp fun x H1 ⟨B, F, env, o, p, a, ea, hF, hB, ho, hn⟩ => by
  subst ea
  cases o with
  | lst ds =>
    obtain ⟨Qd, Ed, rel, hm, hq, he⟩ := p
    obtain ⟨vs, e1, r1⟩ := ho
    have st : Stp B F H1 (fun b => F b ∨ b = a) H1 := ⟨fun _ z => .inl z, fun b z => z.imp id fun w => by rw [w]; exact hB, fun b u z e _ => e, fun _ _ z => z, fun t => t.ext (fun _ z => .inl z) fun _ _ z => z⟩
    -- what is frozen now: kept by the old steps too
    have rel' : Rel (gx X C) B (fun b => F b ∨ b = a) σ env H1 := rel.step st (fun i b z => ⟨rfl, fun w => w.elim (rel.ownSome z).2.1 fun w => by subst w; exact hn i z⟩) fun b z => z.elim (rel.hF b) fun w => by rw [w]; exact Nt.of e1
    exact hq (.lst ds) env (.ref a) _ H1 hm st rel' ⟨a, vs, rfl, .inr rfl, e1, RpL.mono st ds vs r1⟩
  | _ => exact (Pt.no p).elim
theorem s_setLc {i : Nat} {y : Str} {py spos : Pos} {k : D → M Unit} (hc : X.calm = true) (hN : X.N.Nodup) (hy : X.N[i]? = some y) (hyl : X.env.scope.names.lookup y = some .local) (hsw : swapsWith (.ListComp elt [⟨tg, iter, ifs, 0⟩] scope pos) (some (.Name y py)) spos.line X.env = pure true)
    (hi : PI X tg iter (tI (gx X C) W ms)) (ok : BlkOk X.N X.env.scope scope own) (hsub : ∀ i ∈ is, i ∈ own.map (·.2)) (nox : ∀ d env Q E, k d env Q E → k d env Q (fun _ _ => False))
    (hg : ∀ (s : Shared) (H : Hp) (c : Addr) (cl : List (Str × Addr)) (fp : List Addr), PG (X.blk s H scope (compEnvC scope cl c X.env) fp) tg (tTo (gx X C) is k)) (ht : ∀ (s : Shared) (H : Hp) (c : Addr) (cl : List (Str × Addr)) (fp : List Addr), PTs (X.blk s H scope (compEnvC scope cl c X.env) fp) ifs (tBl (gx X C) W0 mt))
    (he : ∀ (s : Shared) (H : Hp) (c : Addr) (cl : List (Str × Addr)) (fp : List Addr), PE (X.blk s H scope (compEnvC scope cl c X.env) fp) elt (tD (gx X C) W0 md)) (hs : ∀ x, foldedSetIterable iter X.env x = pure x := by intro _; rfl) :
    PS X (.Assign [.Name y py] (.ListComp elt [⟨tg, iter, ifs, 0⟩] scope pos) spos) (tS (gx X C) W (thenN (bnd (compM ms k (own.map (·.2)) mt md) (setO i)))) :=
  psImp (ps_setLc hc hN hy hyl hsw hi ok hg ht he hs) fun Z σ H ⟨B, F, env, h⟩ => by
    refine comp_reads hsub nox ?_
    have h : Ps (gx X C) W (bnd (compM ms k (own.map (·.2)) mt md) fun d => bnd (setO i d) fun _ => ret .nx) Z σ H B F env := h
    refine (h.bind (Ra := RO (gx X C)) (as := []) (xs := [])).imp fun y H1 ⟨F1, env1, d, ⟨Qd, Ed, rel, hm, h1, h2, h3, h4, h5⟩, a, ea, hF, hB, ho, hn⟩ => ?_
    subst ea
    have hm : setO i d env1 (fun _ env' => Qd .nx env') Ed := hm
    unfold setO at hm
    cases q : env1[i]? with
    | none => rw [q] at hm; exact hm.elim
    | some s =>
      rw [q] at hm
      cases s with
      | io _ _ => exact hm.elim
      | _ => exact h1 _ _ F1 H1 hm Stp.refl (rel.setO hF hB ho hn)
end
end DL

set_option Elab.async false
set_option linter.all false
set_option maxRecDepth 100000
set_option maxHeartbeats 2000000
/-! Defs: their promises over data; calls. -/
namespace DL
open PySem PySem.Spec PyProof.Rows L2
variable [Tbs]

/-- a def's promise where nothing that shows things is under way -/
structure FnG (P : Program) (w : World) (K : PySem.W.Frag) (mg : Str → Option Value) (base : Heap) (k : Nat) (f : Addr) (fd : FuncData) (ps : List Str) (sp : Sp) : Prop where
  len : ∀ vs H Q E, sp vs H Q E → vs.length = ps.length
  run : ∀ (A : Around) (outer : List Env) (s : Shared) (H : Hp) (args : Args) (us : List Value) (vs : List V) (Q : VK) (E : XK), Room k A → A.guards = some [] → Env0 P w K mg base A outer s H → BindsTo s fd args (ps.zip us) → Vals vs us → sp vs H Q E →
    codeAny (model P w) A (.call (.ref f) args) (CR (L2N.CX P w) outer P w H s Q E) s
theorem fnOk_g {P : Program} {w : World} {K : PySem.W.Frag} {mg : Str → Option Value} {base : Heap} {k : Nat} {f : Addr} {fd : FuncData} {ps : List Str} {sp : Sp} (F : FnOk P w K mg base (L2N.CX P w) k f fd ps sp) : FnG P w K mg base k f fd ps sp :=
  ⟨F.len, fun A outer s H args us vs Q E hr _ => F.run A outer s H args us vs Q E hr⟩
theorem FnG.mono {P : Program} {w : World} {K : PySem.W.Frag} {mg : Str → Option Value} {base : Heap} {j k : Nat} {f : Addr} {fd : FuncData} {ps : List Str} {sp : Sp} (F : FnG P w K mg base j f fd ps sp) (h : j ≤ k) : FnG P w K mg base k f fd ps sp :=
  ⟨F.len, fun A outer s H args us vs Q E hr => F.run A outer s H args us vs Q E (hr.mono h)⟩

/-- the rule of a def by its body -/
theorem fnG_ofc {P : Program} {w : World} {K : PySem.W.Frag} {mg : Str → Option Value} {base : Heap} {k : Nat} {f : Addr} {x qual : Str} {st : Stmt} {fd : FuncData} {N ps : List Str} {sp : Sp} (Fn : Fun K x qual st f fd) (S : FnScope N ps (defScope st)) (len : ∀ vs H Q E, sp vs H Q E → vs.length = ps.length)
    (body : ∀ (cdv : Value), cdv = fd.code → ∀ (A : Around) (outer : List Env) (s : Shared) (H : Hp) (vs : List V) (Q : VK) (E : XK), Room k (A.deeper (envOfC qual (defScope st) s.heap.objs.size f cdv)) → A.guards = some [] → sp vs H Q E →
      ∃ t, PSs (cxOf (L2N.CX P w) P w K mg base N qual (defScope st) f cdv A outer s H E) (defBody st) t ∧ t { nx := fun _ H' => Q .non H', rt := Q } (L2.start N vs) H) : FnG P w K mg base (k + 1) f fd ps sp := by
  obtain ⟨oc, od, kV, doc, pm, an, cdv, ct, osl, rfl, lk, hcd⟩ := Fn.ex
  constructor
  · exact len
  · intro A outer s H args us vs Q E hr hG e0 hb r hsp
    have KX : K.In s.heap := e0.mod.kin.keeps fun b o e => (e0.bs b o e).1
    have few : s.heap.NoLimit := e0.mod.nolimit.keeps fun b o e => (e0.bs b o e).1
    have kinds : ∀ y ∈ ps.zip us, (defScope st).names.lookup y.1 = some .local ∨ ((defScope st).names.lookup y.1 = some .cell ∧ ((cellsFrom (s.heap.objs.size + 1) (defScope st).names []).lookup y.1).isSome = true) := fun ⟨n, v⟩ hy =>
      (S.par n (List.of_mem_zip hy).1).imp id fun q => ⟨q, PySem.W.cellsFrom_some _ _ _ (.inl q)⟩
    refine codeAny_call_function hr.depth (KX _ _ lk) rfl S.co S.gen rfl (PySem.W.codeRec_of KX hcd) (hb _ _ _ _ (wpAny_newFunctionEnv_cells S.kind kinds fun env he s1 z => ?_))
    subst he
    obtain ⟨t, ht, hq⟩ := body cdv rfl A outer s H vs Q E (hr.deeper _) hG hsp
    have I := inv_start (CX := L2N.CX P w) (E := E) S hr.hd e0 (len _ _ _ _ hsp) r z
    refine ⟨few.keeps z.toInCall.keep, codeAny_func (wpAny_mono (ht.run [] s1 (L2.start N vs) H _ I hq) (fun fl s2 hs => ?_) fun e s2 hs => hs)⟩
    match fl, hs with
    | .ret u, ⟨v, σ2, H2, J, rv, q⟩ => exact ⟨v, H2, J.os, J.bare, J.base, J.hok, rv, q⟩
    | .next, ⟨σ2, H2, J, q⟩ => exact ⟨.non, H2, J.os, J.bare, J.base, J.hok, rfl, q⟩
    | .brk, ⟨_, _, _, q⟩ => exact q.elim
    | .cont, ⟨_, _, _, q⟩ => exact q.elim

theorem fnG_of {P : Program} {w : World} {K : PySem.W.Frag} {mg : Str → Option Value} {base : Heap} {k : Nat} {f : Addr} {x qual : Str} {st : Stmt} {fd : FuncData} {N ps : List Str} {sp : Sp} (Fn : Fun K x qual st f fd) (S : FnScope N ps (defScope st)) (len : ∀ vs H Q E, sp vs H Q E → vs.length = ps.length)
    (body : ∀ (cdv : Value) (A : Around) (outer : List Env) (s : Shared) (H : Hp) (vs : List V) (Q : VK) (E : XK), Room k (A.deeper (envOfC qual (defScope st) s.heap.objs.size f cdv)) → A.guards = some [] → sp vs H Q E →
      ∃ t, PSs (cxOf (L2N.CX P w) P w K mg base N qual (defScope st) f cdv A outer s H E) (defBody st) t ∧ t { nx := fun _ H' => Q .non H', rt := Q } (L2.start N vs) H) : FnG P w K mg base (k + 1) f fd ps sp := fnG_ofc Fn S len fun cdv _ => body cdv

/-! ### a def over data -/
abbrev DF := List Slot → (Res → List Slot → Prop) → (Exn → List Slot → Prop) → Prop
def spD (G : Gx) (n : Nat) (f : DF) : Sp := fun vs H Q E => vs.length = n ∧ ∃ (B F : Addr → Prop) (ss : List Slot) (Qd : Res → List Slot → Prop) (Ed : Exn → List Slot → Prop), Rel G B F (vs.map some) ss H ∧ f ss Qd Ed ∧
  (∀ r ss' v F' H', Qd r ss' → Stp B F H F' H' → Rel G B F' (vs.map some) ss' H' → ResR G B F' ss' (vs.map some) H' r v → Q v H') ∧
  (∀ x ss' cls d F' H', Ed x ss' → Stp B F H F' H' → Rel G B F' (vs.map some) ss' H' → ExnR G F' H' x cls d → E cls d H')
/-- the parameters' slots behind the body -/
def finA : List Slot → List Slot → (List Slot → Prop) → Prop
  | [], _, k => k []
  | .io a _ :: as, .io b o :: es, k => a = b ∧ finA as es fun r => k (.io b o :: r)
  | .io _ _ :: _, _, _ => False
  | .ow _ :: _, _, _ => False
  | s :: as, _ :: es, k => finA as es fun r => k (s :: r)
  | _ :: _, [], _ => False
def defM (len : Nat) (body : M Fl) : DF := fun ss Q E => body (ss ++ List.replicate (len - ss.length) .no) (fun f env' => match f with
  | .rt r => finA ss env' fun ss' => Q r ss'
  | .nx => finA ss env' fun ss' => Q (.d .non) ss'
  | _ => False) fun x env' => finA ss env' fun ss' => E x ss'
theorem finA_rel {G : Gx} {B F F' : Addr → Prop} {H H' : Hp} (st : Stp B F H F' H') : ∀ {ss env' : List Slot} {σ σ' : L2.St} {k : List Slot → Prop}, (∀ (i : Nat) s, ss[i]? = some s → SlotR G B F H σ[i]? s) → σ.length = ss.length →
    (∀ (i : Nat) s, env'[i]? = some s → SlotR G B F' H' σ'[i]? s) → finA ss env' k → ∃ ss', k ss' ∧ ss'.length = ss.length ∧ (∀ (i : Nat) s, ss'[i]? = some s → SlotR G B F' H' σ[i]? s) ∧ (∀ (i : Nat) s, ss'[i]? = some s → s.own = true → env'[i]? = some s ∧ σ'[i]? = σ[i]?)
  | [], env', σ, σ', k, h1, hl, h2, h => ⟨[], h, rfl, fun i s e => by simp at e, fun i s e => by simp at e⟩
  | s0 :: ss, env', σ, σ', k, h1, hl, h2, h => by
    cases σ with
    | nil => simp at hl
    | cons x σ =>
      have h1' : ∀ (i : Nat) s, ss[i]? = some s → SlotR G B F H σ[i]? s := fun i s e => h1 (i + 1) s (by simpa using e)
      have hl' : σ.length = ss.length := by simpa using hl
      cases env' with
      | nil => cases s0 <;> exact (show False from h).elim
      | cons e0 es =>
        have h2' : ∀ (i : Nat) s, es[i]? = some s → SlotR G B F' H' (σ'.drop 1)[i]? s := fun i s e => by
          rw [List.getElem?_drop, Nat.add_comm]
          exact h2 (i + 1) s (by simpa using e)
        have wrap : ∀ {s1 : Slot}, finA ss es (fun r => k (s1 :: r)) → SlotR G B F' H' (some x) s1 → (s1.own = true → e0 = s1 ∧ σ'[0]? = some x) → ∃ ss', k ss' ∧ ss'.length = (s0 :: ss).length ∧ (∀ (i : Nat) s, ss'[i]? = some s → SlotR G B F' H' (x :: σ)[i]? s) ∧ (∀ (i : Nat) s, ss'[i]? = some s → s.own = true → (e0 :: es)[i]? = some s ∧ σ'[i]? = (x :: σ)[i]?) := fun {s1} hf hs ho => by
          obtain ⟨ss', k1, k2, k3, k4⟩ := finA_rel st h1' hl' h2' hf
          refine ⟨s1 :: ss', k1, by simp [k2], fun i s e => ?_, fun i s e o => ?_⟩
          · cases i with
            | zero => simp at e; subst e; exact hs
            | succ i => exact k3 i s (by simpa using e)
          · cases i with
            | zero => simp at e; subst e; obtain ⟨z1, z2⟩ := ho o; exact ⟨by rw [z1]; rfl, z2⟩
            | succ i =>
              obtain ⟨z1, z2⟩ := k4 i s (by simpa using e) o
              refine ⟨by simpa using z1, ?_⟩
              rw [List.getElem?_drop, Nat.add_comm] at z2
              simpa using z2
        have q := h1 0 s0 rfl
        cases s0 with
        | no => exact wrap (s1 := .no) (by cases e0 <;> exact h) trivial (fun z => nomatch z)
        | im d => exact wrap (s1 := .im d) (by cases e0 <;> exact h) (by obtain ⟨v, e, r⟩ := q; exact ⟨v, e, Rp.mono st d v r⟩) (fun z => nomatch z)
        | ow o =>
          cases e0 <;> exact (show False from h).elim
        | io a o =>
          cases e0 with
          | io b o' =>
            obtain ⟨e, hf⟩ : a = b ∧ finA ss es (fun r => k (.io b o' :: r)) := h
            subst e
            have q' := h2 0 _ rfl
            have z : some x = some (some (V.ref a)) := q.1
            exact wrap (s1 := .io a o') hf ⟨z, q'.2⟩ fun _ => ⟨rfl, q'.1.trans z.symm⟩
          | _ => exact (show False from h).elim

abbrev WE1 (E : XK) : WX := fun cls d _ H => E cls d H
/-- a def's body, entered as its promise says -/
theorem spD_tS {G : Gx} {n : Nat} {N : List Str} {m : M Fl} {vs : List V} {H : Hp} {Q : VK} {E : XK} (hN : n ≤ N.length) (h : spD G n (defM N.length m) vs H Q E) : tS G (WE1 E) m { nx := fun _ H' => Q .non H', rt := Q } (L2.start N vs) H := by
  obtain ⟨hl, B, F, ss, Qd, Ed, rel, hf, hq, he⟩ := h
  have lss : ss.length = vs.length := by rw [rel.len, List.length_map]
  have pre : ∀ i, i < vs.length → (L2.start N vs)[i]? = (vs.map some)[i]? := fun i h => by unfold L2.start; rw [List.getElem?_append_left (by simpa using h)]
  have pre2 : ∀ i, i < ss.length → (ss ++ List.replicate (N.length - ss.length) Slot.no)[i]? = ss[i]? := fun i h => by rw [List.getElem?_append_left h]
  have post2 : ∀ i s, ss.length ≤ i → (ss ++ List.replicate (N.length - ss.length) Slot.no)[i]? = some s → s = .no := fun i s h e => by
    rw [List.getElem?_append_right h, List.getElem?_replicate] at e
    split at e
    · exact (Option.some.inj e).symm
    · cases e
  have rel0 : Rel G B F (L2.start N vs) (ss ++ List.replicate (N.length - ss.length) Slot.no) H := by
    have own_lt : ∀ i a, OwnAt (ss ++ List.replicate (N.length - ss.length) Slot.no) (L2.start N vs) i a → OwnAt ss (vs.map some) i a := fun i a ⟨⟨s, e, o⟩, z⟩ => by
      by_cases hi : i < ss.length
      · exact ⟨⟨s, by rw [← pre2 i hi]; exact e, o⟩, by rw [← pre i (by omega)]; exact z⟩
      · rw [post2 i s (by omega) e] at o; cases o
    refine ⟨?_, fun i s e => ?_, fun i j a h1 h2 => rel.ap i j a (own_lt i a h1) (own_lt j a h2), rel.hB, rel.hF, rel.tb⟩
    · unfold L2.start
      rw [List.length_append, List.length_append, List.length_map, List.length_replicate, List.length_replicate, lss]
    · by_cases hi : i < ss.length
      · rw [pre i (by omega)]
        exact rel.sl i s (by rw [← pre2 i hi]; exact e)
      · rw [post2 i s (by omega) e]
        trivial
  have back : ∀ {env' : List Slot} {σ' : L2.St} {F' : Addr → Prop} {H' : Hp} {kk : List Slot → Prop}, Stp B F H F' H' → Rel G B F' σ' env' H' → finA ss env' kk → ∃ ss', kk ss' ∧ Rel G B F' (vs.map some) ss' H' ∧ (∀ (i : Nat) s, ss'[i]? = some s → s.own = true → env'[i]? = some s ∧ σ'[i]? = (vs.map some)[i]?) := fun {env' σ' F' H' kk} st rl hf => by
    obtain ⟨ss', k1, k2, k3, k4⟩ := finA_rel st rel.sl (by rw [← rel.len]) rl.sl hf
    refine ⟨ss', k1, ⟨by rw [k2]; exact rel.len, k3, fun i j a ⟨⟨s1, e1, o1⟩, z1⟩ ⟨⟨s2, e2, o2⟩, z2⟩ => ?_, rl.hB, rl.hF, rl.tb⟩, k4⟩
    obtain ⟨a1, a2⟩ := k4 i s1 e1 o1
    obtain ⟨b1, b2⟩ := k4 j s2 e2 o2
    exact rl.ap i j a ⟨⟨s1, a1, o1⟩, a2.trans z1⟩ ⟨⟨s2, b1, o2⟩, b2.trans z2⟩
  refine ⟨B, F, _, _, _, rel0, hf, fun env' σ' F' H' q st rl => ?_, fun env' σ' F' H' q st rl => q.elim, fun env' σ' F' H' q st rl => q.elim, fun r env' σ' F' H' v q st rl rr => ?_, fun x env' σ' cls d F' H' q st rl rx => ?_⟩
  · obtain ⟨ss', k1, k2, k3⟩ := back st rl q
    exact hq _ ss' .non F' H' k1 st k2 rfl
  · obtain ⟨ss', k1, k2, k3⟩ := back st rl q
    refine hq r ss' v F' H' k1 st k2 ?_
    cases r with
    | d d => exact rr
    | o o =>
      obtain ⟨a, ea, h1, h2, h3, h4⟩ := rr
      exact ⟨a, ea, h1, h2, h3, fun i b p e => h4 i b p (k3 i _ e rfl).1⟩
  · obtain ⟨ss', k1, k2, k3⟩ := back st rl q
    exact he x ss' cls d F' H' k1 st k2 rx

/-- THE RULE for a def of the text -/
theorem fnD {P : Program} {w : World} {K : PySem.W.Frag} {mg : Str → Option Value} {base : Heap} {k n : Nat} {f C : Addr} {x qual : Str} {st : Stmt} {fd : FuncData} {N ps : List Str} {m : M Fl} (Fn : Fun K x qual st f fd) (S : FnScope N ps (defScope st)) (hn : n = ps.length) (hN : n ≤ N.length)
    (body : ∀ (cdv : Value) (A : Around) (outer : List Env) (s : Shared) (H : Hp) (E : XK), Room k (A.deeper (envOfC qual (defScope st) s.heap.objs.size f cdv)) → A.guards = some [] →
      PSs (cxOf (L2N.CX P w) P w K mg base N qual (defScope st) f cdv A outer s H E) (defBody st) (tS ⟨C, mg, K, w, P⟩ (WE1 E) m)) : FnG P w K mg base (k + 1) f fd ps (spD ⟨C, mg, K, w, P⟩ n (defM N.length m)) := by
  exact fnG_of Fn S (fun vs H Q E h => h.1.trans hn) fun cdv A outer s H vs Q E hr hG h => ⟨_, body cdv A outer s H E hr hG, spD_tS hN h⟩

/-! ### arguments -/
inductive Ar where
  | d (d : D) | o (i : Nat)
def RAr (G : Gx) : (Addr → Prop) → (Addr → Prop) → List Slot → L2.St → Hp → List Ar → List V → Prop
  | _, _, _, _, _, [], vs => vs = []
  | B, F, env, σ, H, .d d :: as, vs => ∃ v r, vs = v :: r ∧ Rp G F H d v ∧ RAr G B F env σ H as r
  | B, F, env, σ, H, .o i :: as, vs => ∃ v r, vs = v :: r ∧ σ[i]? = some (some v) ∧ RAr G B F env σ H as r
abbrev tAs (G : Gx) (W : WX) (m : M (List Ar)) : TA := Lift G W (RAr G) m
def RRs (G : Gx) : (Addr → Prop) → (Addr → Prop) → List Slot → L2.St → Hp → Res → V → Prop := fun B F env σ H r v => match r with
  | .d d => Rp G F H d v
  | .o o => RO G B F env σ H o v
abbrev tRs (G : Gx) (W : WX) (m : M Res) : TE := Lift G W (RRs G) m
def consD (m : M D) (ms : M (List Ar)) : M (List Ar) := bnd m fun d => bnd ms fun as => ret (.d d :: as)
def consO (i : Nat) (ms : M (List Ar)) : M (List Ar) := bnd (getO i) fun _ => bnd ms fun as => ret (.o i :: as)
theorem getO_spec {i : Nat} {env : List Slot} {Q : O → List Slot → Prop} {E : Exn → List Slot → Prop} (h : getO i env Q E) : ∃ o, ((env[i]? = some (.ow o)) ∨ ∃ b, env[i]? = some (.io b o)) ∧ Q o env := by
  unfold getO at h
  cases q : env[i]? with
  | none => rw [q] at h; exact h.elim
  | some s =>
    rw [q] at h
    cases s with
    | ow o => exact ⟨o, .inl rfl, h⟩
    | io a o => exact ⟨o, .inr ⟨a, rfl⟩, h⟩
    | _ => exact h.elim
section
variable {X : Cx} {C : Addr} {W : WX} {e : Expr} {es : List Expr} {md : M D} {ms : M (List Ar)}
theorem ar_nil : PA X [] (tAs (gx X C) W (ret [])) := paImp pa_nil fun σ H Q ⟨B, F, env, h⟩ => h.pure rfl
theorem ar_d (ha : PE X e (tD (gx X C) W md)) (hr : PA X es (tAs (gx X C) W ms)) (hs : starEach (e :: es) X.env = (false, eval e X.env) :: starEach es X.env := by rfl) : PA X (e :: es) (tAs (gx X C) W (consD md ms)) :=
  paImp (pa_cons ha hr hs) fun σ H Q h => (lift1 (Ra := RD (gx X C)) h).imp fun x H1 ⟨B, F, env, d, p, r⟩ =>
    (p.bind (Ra := RAr (gx X C)) (as := [d]) (xs := [x]) ⟨x, [], rfl, r, rfl⟩).imp fun xs H2 ⟨F2, env2, as, p2, ⟨x', r', e, rd, _⟩, rs⟩ => by
      cases e
      exact Pt.pure (c := Ar.d d :: as) p2 ⟨x, xs, rfl, rd, rs⟩
theorem ar_o {i : Nat} (ha : PE X e (tVar i)) (hr : PA X es (tAs (gx X C) W ms)) (hs : starEach (e :: es) X.env = (false, eval e X.env) :: starEach es X.env := by rfl) : PA X (e :: es) (tAs (gx X C) W (consO i ms)) :=
  paImp (pa_cons ha hr hs) fun σ H Q ⟨B, F, env, Qd, Ed, rel, hm, hq, he⟩ => by
    have hm : getO i env (fun _ env' => bnd ms (fun as => ret (.o i :: as)) env' Qd Ed) Ed := hm
    obtain ⟨o, ho, hm⟩ := getO_spec hm
    obtain ⟨a, ea, _⟩ := rel.owned ho
    refine ⟨.ref a, ea, ?_⟩
    have p : Pt (gx X C) W (RAr (gx X C)) σ H Q (bnd ms fun as => ret (.o i :: as)) B F env := ⟨Qd, Ed, rel, hm, hq, he⟩
    exact (p.bind (Ra := RAr (gx X C)) (as := []) (xs := []) rfl).imp fun xs H2 ⟨F2, env2, as, p2, _, rs⟩ => Pt.pure (c := Ar.o i :: as) p2 ⟨.ref a, xs, rfl, ea, rs⟩
end
def allD : List Ar → Option (List D)
  | [] => some []
  | .d d :: r => (allD r).map (d :: ·)
  | .o _ :: _ => none
def split1 : List Ar → Option (List D × Nat × List D)
  | [] => none
  | .d d :: r => (split1 r).map fun p => (d :: p.1, p.2)
  | .o i :: r => (allD r).map fun ds => ([], i, ds)
def callD (f : DF) (ds : List D) : M Res := fun env Q E => f (ds.map .im) (fun r _ => Q r env) (fun x _ => E x env)
def ioAt (n i : Nat) (env ss : List Slot) (k : List Slot → Prop) : Prop := match ss[n]? with
  | some (.io _ o) => k (putS env i o)
  | _ => False
def call1 (f : DF) (l : List D) (i : Nat) (r : List D) : M Res := fun env Q E => match env[i]? with
  | some (.ow o) => ∀ a, f (l.map .im ++ .io a o :: r.map .im) (fun v ss => ioAt l.length i env ss (Q v)) (fun x ss => ioAt l.length i env ss (E x))
  | some (.io a o) => f (l.map .im ++ .io a o :: r.map .im) (fun v ss => ioAt l.length i env ss (Q v)) (fun x ss => ioAt l.length i env ss (E x))
  | _ => False
def callA (f : DF) (as : List Ar) : M Res := match allD as with
  | some ds => callD f ds
  | none => match split1 as with
    | some (l, i, r) => call1 f l i r
    | none => fail
theorem allD_eq : ∀ {as : List Ar} {ds : List D}, allD as = some ds → as = ds.map .d
  | [], ds, h => by cases h; rfl
  | .d d :: r, ds, h => by
    cases e : allD r with
    | none => simp [allD, e] at h
    | some l => simp [allD, e] at h; subst h; rw [List.map_cons, ← allD_eq e]
  | .o _ :: _, ds, h => by cases h
theorem split1_eq : ∀ {as : List Ar} {l : List D} {i : Nat} {r : List D}, split1 as = some (l, i, r) → as = l.map .d ++ .o i :: r.map .d
  | [], _, _, _, h => by cases h
  | .d d :: as, l, i, r, h => by
    cases e : split1 as with
    | none => simp [split1, e] at h
    | some p =>
      simp [split1, e] at h
      obtain ⟨h1, h2⟩ := h
      subst h1
      obtain ⟨p1, p2, p3⟩ := p
      simp at h2
      obtain ⟨h2, h3⟩ := h2
      subst h2 h3
      rw [split1_eq e]; rfl
  | .o j :: as, l, i, r, h => by
    cases e : allD as with
    | none => simp [split1, e] at h
    | some ds =>
      simp [split1, e] at h
      obtain ⟨h1, h2, h3⟩ := h
      subst h1 h2 h3
      rw [← allD_eq e]; rfl
end DL

set_option Elab.async false
set_option linter.all false
set_option maxRecDepth 100000
set_option maxHeartbeats 2000000
/-! Calls of defs over data. -/
namespace DL
open PySem PySem.Spec PyProof.Rows L2
variable [Tbs]
section
variable {G : Gx} {W : WX} {B F : Addr → Prop} {σ : L2.St} {H : Hp} {env : List Slot}
theorem rAr_d : ∀ {ds : List D} {vs : List V}, RAr G B F env σ H (ds.map .d) vs → RpL G F H ds vs
  | [], _, h => h
  | d :: ds, _, ⟨v, r, e, h1, h2⟩ => ⟨v, r, e, h1, rAr_d h2⟩
theorem rAr_split : ∀ {l : List D} {i : Nat} {r : List D} {vs : List V}, RAr G B F env σ H (l.map .d ++ .o i :: r.map .d) vs → ∃ vl v vr, vs = vl ++ v :: vr ∧ RpL G F H l vl ∧ σ[i]? = some (some v) ∧ RpL G F H r vr
  | [], i, r, _, ⟨v, vr, e, h1, h2⟩ => ⟨[], v, vr, e, rfl, h1, rAr_d h2⟩
  | d :: l, i, r, _, ⟨v, rest, e, h1, h2⟩ => by
    obtain ⟨vl, w, vr, e2, a, b, c⟩ := rAr_split h2
    subst e e2
    exact ⟨v :: vl, w, vr, rfl, ⟨v, vl, rfl, h1, a⟩, b, c⟩
theorem im_slot {B' : Addr → Prop} {ds : List D} {vs : List V} (h : RpL G F H ds vs) {i : Nat} {s : Slot} (e : (ds.map Slot.im)[i]? = some s) : SlotR G B' F H (vs.map some)[i]? s ∧ s.own = false := by
  rw [List.getElem?_map] at e
  cases q : ds[i]? with
  | none => rw [q] at e; cases e
  | some d =>
    rw [q] at e
    cases e
    obtain ⟨v, hv, rv⟩ := h.get q
    exact ⟨⟨v, by rw [List.getElem?_map, hv]; rfl, rv⟩, rfl⟩
theorem rel_ims {B' : Addr → Prop} {ds : List D} {vs : List V} (h : RpL G F H ds vs) (hB : ∀ a, B' a → Nt H a) (hF : ∀ a, F a → Nt H a) (tb : TabF Tbs.T F H) : Rel G B' F (vs.map some) (ds.map .im) H :=
  ⟨by rw [List.length_map, List.length_map, h.length], fun i s e => (im_slot h e).1, fun i j a ⟨⟨s, e, o⟩, _⟩ _ => absurd o (by rw [(im_slot (B' := B') h e).2]; exact Bool.false_ne_true), hB, hF, tb⟩
/-- the caller's slots behind a step of the callee's -/
theorem Rel.called {B' F' : Addr → Prop} {H' : Hp} (rel : Rel G B F σ env H) (st : Stp B' F H F' H') (hBB : ∀ a, B a → B' a) (ho : ∀ i a, OwnAt env σ i a → B' a) (hF' : ∀ a, F' a → Nt H' a) : Stp B F H F' H' ∧ Rel G B F' σ env H' := by
  have st' : Stp B F H F' H' := st.less hBB
  refine ⟨st', rel.step st' (fun i a o => ?_) hF'⟩
  obtain ⟨n, nF, nB⟩ := rel.ownSome o
  refine ⟨?_, fun z => (st.fn a z).elim nF fun w => w (ho i a o)⟩
  cases e : H a with
  | none => exact absurd e n
  | some u => exact st.hk a u (.inl (ho i a o)) e fun ps z => rel.ownTab o ps (z ▸ e)
theorem resR_called {B' F' : Addr → Prop} {H' : Hp} {r : Res} {v : V} {ss : List Slot} {τ : L2.St} (hBB : ∀ a, B a → B' a) (hn : ∀ a, ¬ B' a → (∀ (i : Nat) b p, ss[i]? = some (.io b p) → b ≠ a) → ∀ i, ¬ OwnAt env σ i a) (rr : ResR G B' F' ss τ H' r v) : RRs G B F' env σ H' r v := by
  cases r with
  | d d => exact rr
  | o o =>
    obtain ⟨a, ea, h1, h2, h3, h4⟩ := rr
    exact ⟨a, ea, h1, fun z => h2 (hBB a z), h3, hn a h2 h4⟩
/-- a call without an object of the caller's own -/
theorem Pt.callD {Q : V → Hp → Prop} {n : Nat} {f : DF} {ds : List D} {vs : List V} (h : Pt G W (RRs G) σ H Q (callD f ds) B F env) (r : RpL G F H ds vs) (hl : vs.length = n) : spD G n f vs H Q (WE W σ) := by
  obtain ⟨Qd, Ed, rel, hm, hq, he⟩ := h
  have hBB : ∀ a, B a → Nt H a := rel.hB
  have hoo : ∀ i a, OwnAt env σ i a → Nt H a := fun i a o => ⟨(rel.ownSome o).1, rel.ownTab o⟩
  refine ⟨hl, fun a => Nt H a, F, ds.map .im, _, _, rel_ims r (fun _ h => h) rel.hF rel.tb, hm, fun rr ss' v F' H' q st rl rs => ?_, fun x ss' cls d F' H' q st rl rx => ?_⟩
  · obtain ⟨st', rel'⟩ := rel.called st hBB hoo rl.hF
    exact hq rr env v F' H' q st' rel' (resR_called hBB (fun a z _ i o => z (hoo i a o)) rs)
  · obtain ⟨st', rel'⟩ := rel.called st hBB hoo rl.hF
    exact he x env cls d F' H' q st' rel' rx
/-- the slots ahead of one, and behind -/
theorem mid_get {α : Type} {l r : List α} {x : α} {i : Nat} {y : α} (h : (l ++ x :: r)[i]? = some y) : (i < l.length ∧ l[i]? = some y) ∨ (i = l.length ∧ y = x) ∨ (l.length < i ∧ r[i - l.length - 1]? = some y) := by
  by_cases h1 : i < l.length
  · rw [List.getElem?_append_left h1] at h; exact .inl ⟨h1, h⟩
  · rw [List.getElem?_append_right (by omega)] at h
    by_cases h2 : i = l.length
    · subst h2
      simp at h
      exact .inr (.inl ⟨rfl, h.symm⟩)
    · refine .inr (.inr ⟨by omega, ?_⟩)
      obtain ⟨k, hk⟩ : ∃ k, i - l.length = k + 1 := ⟨i - l.length - 1, by omega⟩
      rw [hk] at h
      rw [hk]
      simpa using h
theorem mid_at {α : Type} {l r : List α} {x : α} : (l ++ x :: r)[l.length]? = some x := by simp
theorem mid_after {α : Type} {l r : List α} {x : α} {i : Nat} (h : l.length < i) : (l ++ x :: r)[i]? = r[i - l.length - 1]? := by
  rw [List.getElem?_append_right (by omega)]
  obtain ⟨k, hk⟩ : ∃ k, i - l.length = k + 1 := ⟨i - l.length - 1, by omega⟩
  rw [hk]
  simp
theorem call1_core {Q : V → Hp → Prop} {n : Nat} {f : DF} {l r : List D} {vl vr : List V} {i : Nat} {a : Addr} {o : O} {Qd : Res → List Slot → Prop} {Ed : Exn → List Slot → Prop} (rel : Rel G B F σ env H) (ho : OwnAt env σ i a) (hw : OwAt G F H a o)
    (hm : f (l.map .im ++ .io a o :: r.map .im) (fun v ss => ioAt l.length i env ss (Qd v)) (fun x ss => ioAt l.length i env ss (Ed x)))
    (hq : ∀ rr env' v F' H', Qd rr env' → Stp B F H F' H' → Rel G B F' σ env' H' → RRs G B F' env' σ H' rr v → Q v H') (he : ∀ x env' cls d F' H', Ed x env' → Stp B F H F' H' → Rel G B F' σ env' H' → ExnR G F' H' x cls d → W cls d σ H')
    (rl : RpL G F H l vl) (rr : RpL G F H r vr) (hn : (vl ++ V.ref a :: vr).length = n) : spD G n f (vl ++ .ref a :: vr) H Q (WE W σ) := by
  obtain ⟨na, nF, nB⟩ := rel.ownSome ho
  have hBB : ∀ b, B b → Nt H b ∧ b ≠ a := fun b h => ⟨rel.hB b h, fun z => nB (z ▸ h)⟩
  have ll : l.length = vl.length := rl.length
  have slots : ∀ (B' : Addr → Prop), ¬ B' a → ∀ j s, (l.map Slot.im ++ .io a o :: r.map .im)[j]? = some s → SlotR G B' F H ((vl ++ .ref a :: vr).map some)[j]? s ∧ (s.own = true → j = l.length) := fun B' nb j s e => by
    rw [List.map_append, List.map_cons]
    rcases mid_get e with ⟨h1, h2⟩ | ⟨h1, h2⟩ | ⟨h1, h2⟩
    · rw [List.length_map] at h1
      rw [List.getElem?_append_left (by rw [List.length_map]; omega)]
      obtain ⟨z1, z2⟩ := im_slot (B' := B') rl h2
      exact ⟨z1, fun z => by rw [z2] at z; cases z⟩
    · rw [List.length_map] at h1
      subst h1 h2
      have z : (vl.map some ++ some (V.ref a) :: vr.map some)[l.length]? = some (some (V.ref a)) := by
        rw [ll, show vl.length = (vl.map some).length by rw [List.length_map]]
        exact mid_at
      rw [z]
      exact ⟨⟨rfl, nF, nb, hw⟩, fun _ => rfl⟩
    · rw [List.length_map] at h1 h2
      rw [mid_after (by rw [List.length_map]; omega), List.length_map, ← ll]
      obtain ⟨z1, z2⟩ := im_slot (B' := B') rr h2
      exact ⟨z1, fun z => by rw [z2] at z; cases z⟩
  have nC : ¬ (fun b : Addr => Nt H b ∧ b ≠ a) a := fun z => z.2 rfl
  have relC : Rel G (fun b => Nt H b ∧ b ≠ a) F ((vl ++ .ref a :: vr).map some) (l.map .im ++ .io a o :: r.map .im) H :=
    ⟨by simp [ll, rr.length], fun j s e => (slots (fun b : Addr => Nt H b ∧ b ≠ a) nC j s e).1, fun j k b ⟨⟨s, e, w⟩, _⟩ ⟨⟨s', e', w'⟩, _⟩ => ((slots (fun b : Addr => Nt H b ∧ b ≠ a) nC j s e).2 w).trans ((slots (fun b : Addr => Nt H b ∧ b ≠ a) nC k s' e').2 w').symm, fun b h => h.1, rel.hF, rel.tb⟩
  -- behind the call
  have after : ∀ {F' : Addr → Prop} {H' : Hp} {ss' : List Slot} {kk : List Slot → Prop}, ioAt l.length i env ss' kk → Stp (fun b => Nt H b ∧ b ≠ a) F H F' H' → Rel G (fun b => Nt H b ∧ b ≠ a) F' ((vl ++ .ref a :: vr).map some) ss' H' →
      ∃ o', kk (putS env i o') ∧ Stp B F H F' H' ∧ Rel G B F' σ (putS env i o') H' ∧ ss'[l.length]? = some (.io a o') := fun {F' H' ss' kk} h st rl' => by
    unfold ioAt at h
    cases e : ss'[l.length]? with
    | none => rw [e] at h; exact h.elim
    | some s =>
      rw [e] at h
      cases s with
      | io b o' =>
        obtain ⟨e1, e2, e3, e4⟩ := rl'.sl _ _ e
        have z : ((vl ++ V.ref a :: vr).map some)[l.length]? = some (some (V.ref a)) := by
          rw [List.map_append, List.map_cons, ll, show vl.length = (vl.map some).length by rw [List.length_map]]
          exact mid_at
        rw [z] at e1
        cases e1
        have st' : Stp B F H F' H' := st.less hBB
        refine ⟨o', h, st', ?_, rfl⟩
        -- all other owned objects stay, this one holds o'
        have oth : ∀ j b, OwnAt env σ j b → j ≠ i → H' b = H b ∧ ¬ F' b := fun j b w ne => by
          obtain ⟨n1, n2, n3⟩ := rel.ownSome w
          have nb : Nt H b ∧ b ≠ a := ⟨⟨n1, rel.ownTab w⟩, fun z => ne (rel.ap j i a (z ▸ w) ho)⟩
          refine ⟨?_, fun z => (st.fn b z).elim n2 fun q => q nb⟩
          cases e : H b with
          | none => exact absurd e n1
          | some u => exact st.hk b u (.inl nb) e fun ps z => rel.ownTab w ps (z ▸ e)
        obtain ⟨⟨s0, q0, w0⟩, σ0⟩ := id ho
        have hlt : i < env.length := (List.getElem?_eq_some_iff.mp q0).1
        have fin : ∀ s1 : Slot, SlotR G B F' H' σ[i]? s1 → Rel G B F' σ (env.set i s1) H' := fun s1 r1 => by
          refine ⟨by rw [List.length_set]; exact rel.len, fun j t e' => ?_, fun j k b h1 h2 => ?_, fun b z => st.hs b (.inl (hBB b z)) (rel.hB b z), rl'.hF, rl'.tb⟩
          · by_cases hj : j = i
            · subst hj
              rw [List.getElem?_set_self hlt] at e'
              cases e'
              exact r1
            · rw [List.getElem?_set_ne (Ne.symm hj)] at e'
              have q := rel.sl j t e'
              cases t with
              | no => trivial
              | im d => obtain ⟨v, h1, h2⟩ := q; exact ⟨v, h1, Rp.mono st' d v h2⟩
              | ow p => obtain ⟨b, h1, h2, h3, h4⟩ := q; obtain ⟨x1, x2⟩ := oth j b ⟨⟨_, e', rfl⟩, h1⟩ hj; exact ⟨b, h1, x2, h3, OwAt.mono st' x1 h4⟩
              | io b p => obtain ⟨h1, h2, h3, h4⟩ := q; obtain ⟨x1, x2⟩ := oth j b ⟨⟨_, e', rfl⟩, h1⟩ hj; exact ⟨h1, x2, h3, OwAt.mono st' x1 h4⟩
          · have back : ∀ m, OwnAt (env.set i s1) σ m b → OwnAt env σ m b := fun m ⟨⟨t, e1, k1⟩, e2⟩ => by
              by_cases hm : m = i
              · subst hm; exact ⟨⟨s0, q0, w0⟩, e2⟩
              · rw [List.getElem?_set_ne (Ne.symm hm)] at e1; exact ⟨⟨t, e1, k1⟩, e2⟩
            exact rel.ap j k b (back j h1) (back k h2)
        unfold putS
        rw [q0]
        cases s0 with
        | ow p => exact fin (.ow o') ⟨a, σ0, e2, nB, e4⟩
        | io c p =>
          have z := (rel.sl i _ q0).1
          rw [σ0] at z
          cases z
          exact fin (.io a o') ⟨σ0, e2, nB, e4⟩
        | no => cases w0
        | im d => cases w0
      | _ => exact h.elim
  refine ⟨hn, fun b => Nt H b ∧ b ≠ a, F, _, _, _, relC, hm, fun rr' ss' v F' H' q st rl' rs => ?_, fun x ss' cls d F' H' q st rl' rx => ?_⟩
  · obtain ⟨o', k1, st', rel', e'⟩ := after q st rl'
    refine hq rr' _ v F' H' k1 st' rel' (resR_called hBB (fun b nb hb j w => ?_) rs)
    have w' : OwnAt env σ j b := by
      obtain ⟨⟨t, e1, k1⟩, e2⟩ := w
      unfold putS at e1
      cases q : env[i]? with
      | none => rw [q] at e1; exact ⟨⟨t, e1, k1⟩, e2⟩
      | some s0 =>
        rw [q] at e1
        have hlt : i < env.length := (List.getElem?_eq_some_iff.mp q).1
        have go : ∀ s1 : Slot, (env.set i s1)[j]? = some t → s0.own = true → OwnAt env σ j b := fun s1 e1 k0 => by
          by_cases hm : j = i
          · subst hm; exact ⟨⟨s0, q, k0⟩, e2⟩
          · rw [List.getElem?_set_ne (Ne.symm hm)] at e1; exact ⟨⟨t, e1, k1⟩, e2⟩
        cases s0 with
        | ow _ => exact go _ e1 rfl
        | io _ _ => exact go _ e1 rfl
        | no => exact ⟨⟨t, e1, k1⟩, e2⟩
        | im _ => exact ⟨⟨t, e1, k1⟩, e2⟩
    by_cases hj : j = i
    · subst hj
      have z : b = a := by
        have z1 := w'.2
        rw [ho.2] at z1
        cases z1; rfl
      exact hb _ a o' e' z.symm
    · exact nb ⟨⟨(rel.ownSome w').1, rel.ownTab w'⟩, fun z => hj (rel.ap j i a (z ▸ w') ho)⟩
  · obtain ⟨o', k1, st', rel', e'⟩ := after q st rl'
    exact he x _ cls d F' H' k1 st' rel' rx
theorem Pt.call1 {Q : V → Hp → Prop} {n : Nat} {f : DF} {l r : List D} {i : Nat} {vl vr : List V} {v : V} (h : Pt G W (RRs G) σ H Q (call1 f l i r) B F env) (rl : RpL G F H l vl) (ev : σ[i]? = some (some v)) (rr : RpL G F H r vr) (hl : (vl ++ v :: vr).length = n) : spD G n f (vl ++ v :: vr) H Q (WE W σ) := by
  obtain ⟨Qd, Ed, rel, hm, hq, he⟩ := h
  unfold DL.call1 at hm
  cases q : env[i]? with
  | none => rw [q] at hm; exact hm.elim
  | some s =>
    rw [q] at hm
    cases s with
    | ow o =>
      obtain ⟨a, e1, _, _, e4, e5⟩ := rel.owned (.inl q)
      rw [ev] at e1
      cases e1
      exact call1_core rel e5 e4 (hm a) hq he rl rr hl
    | io b o =>
      obtain ⟨a, e1, _, _, e4, e5⟩ := rel.owned (.inr ⟨b, q⟩)
      have z := (rel.sl i _ q).1
      rw [z] at e1
      cases e1
      rw [ev] at z
      cases z
      exact call1_core rel e5 e4 hm hq he rl rr hl
    | _ => exact hm.elim
theorem Pt.callA {Q : V → Hp → Prop} {n : Nat} {f : DF} {as : List Ar} {vs : List V} (h : Pt G W (RRs G) σ H Q (callA f as) B F env) (r : RAr G B F env σ H as vs) (hl : vs.length = n) : spD G n f vs H Q (WE W σ) := by
  unfold DL.callA at h
  cases e : allD as with
  | some ds =>
    rw [e] at h
    rw [allD_eq e] at r
    exact Pt.callD h (rAr_d r) hl
  | none =>
    rw [e] at h
    cases e2 : split1 as with
    | none => rw [e2] at h; exact (Pt.no h).elim
    | some p =>
      obtain ⟨l, i, r'⟩ := p
      rw [e2] at h
      rw [split1_eq e2] at r
      obtain ⟨vl, v, vr, ev, h1, h2, h3⟩ := rAr_split r
      subst ev
      exact Pt.call1 h h1 h2 h3 hl
end
end DL

set_option Elab.async false
set_option linter.all false
set_option maxRecDepth 100000
set_option maxHeartbeats 2000000
/-! Calls as expressions: defs, built-ins, methods. -/
namespace DL
open PySem PySem.Spec PyProof.Rows L2
variable [Tbs]
section
variable {X : Cx} {C : Addr} {W : WX} {k n : Nat} {f : Addr} {fd : FuncData} {ps ks : List Str} {df : DF} {x : Str} {p pos : Pos} {e : Expr} {es : List Expr} {kws : List Keyword} {ma : M (List Ar)} {md : M D} {ms mk : M (List D)}
theorem run_g {pins : List (Addr × Obj)} {σ : L2.St} {H : Hp} {s : Shared} {Q : VK} {args : Args} {us : List Value} {vs : List V} {sp : Sp} (Fn : FnG X.prog X.w X.K X.mg X.base k f fd ps sp) (hr : Room k X.A) (hG : X.A.guards = some []) (tk : L2N.Takes X W) (I : Inv X pins σ H s)
    (hb : BindsTo s fd args (ps.zip us)) (r : Vals vs us) (h : sp vs H Q (WE W σ)) : codeAny (model X.prog X.w) X.A (.call (.ref f) args) (fun rr s' => match rr with
      | .ok (.ret u) => EP X pins σ Q u s'
      | .ok _ => False
      | .error ex => X.xe ex s') s := by
  refine codeAny_mono (Fn.run X.A X.stack s H args us vs Q (WE W σ) hr hG I.env0 hb r h) fun rr s' hq => ?_
  match rr, hq with
  | .error ex, hq => exact L2N.passAt tk σ pins H s ex s' I hq
  | .ok (.ret u), hq => exact I.after hq
  | .ok .next, hq => exact hq
  | .ok .brk, hq => exact hq
  | .ok .cont, hq => exact hq
theorem rAr_len {G : Gx} {B F : Addr → Prop} {env : List Slot} {σ : L2.St} {H : Hp} : ∀ {as : List Ar} {vs : List V}, RAr G B F env σ H as vs → vs.length = as.length
  | [], _, r => by rw [show _ = [] from r]; rfl
  | .d _ :: as, _, ⟨v, rr, ee, _, r2⟩ => by subst ee; simp [rAr_len r2]
  | .o _ :: as, _, ⟨v, rr, ee, _, r2⟩ => by subst ee; simp [rAr_len r2]
def callN (n : Nat) (df : DF) (as : List Ar) : M Res := ask (as.length = n) (callA df as)
theorem Pt.callN {G : Gx} {B F : Addr → Prop} {env : List Slot} {σ : L2.St} {H : Hp} {Q : V → Hp → Prop} {as : List Ar} {vs : List V} (h : Pt G W (RRs G) σ H Q (DL.callN n df as) B F env) (r : RAr G B F env σ H as vs) : vs.length = n ∧ spD G n df vs H Q (WE W σ) := by
  obtain ⟨l, h⟩ := h.asked
  have lv := (rAr_len r).trans l
  exact ⟨lv, h.callA r lv⟩
/-- f(e, ..) -/
theorem c_pos (Fn : FnG X.prog X.w X.K X.mg X.base k f fd ps (spD (gx X C) n df)) (hr : Room k X.A) (hG : X.A.guards = some []) (tk : L2N.Takes X W) (hg : Gl X x) (hm : X.mg x = some (.ref f)) (hk : PySem.W.keepIn X.K (.ref f) = true) (hb : Binds X.K fd ps [])
    (hn : n = ps.length) (ha : PA X (e :: es) (tAs (gx X C) W ma)) (hdb : (x == ("__debug__" : Str)) = false := by decide) (he : starEach (e :: es) X.env = (false, eval e X.env) :: starEach es X.env := by rfl) (hpl : (backTo pos (starEach es X.env)).any (·.1) = false := by rfl) :
    PE X (.Call (.Name x p) (e :: es) [] pos) (tRs (gx X C) W (bnd ma (callN n df))) := ⟨fun pins s σ H Q I h => by
  refine wpAny_Call_Name_kw (ld_glob I hg hm (PySem.W.callWith_K (h₀ := X.base) I.ok.mod.kin hk (thn (ha.run pos pins s σ H (fun vs H1 => vs.length = n ∧ spD (gx X C) n df vs H1 Q (WE W σ)) I ?_) fun us s1 ⟨vs, H1, I1, r, l, q⟩ => ⟨I1.kIn, wpAny_call ?_⟩) he hpl) hdb)
  · exact (lift1 (Ra := RAr (gx X C)) h).imp fun vs H1 ⟨B, F, env, as, q, r⟩ => q.callN r
  · have hb' := hb s1 us I1.kIn (by rw [List.append_nil, ← r.length, l, hn])
    rw [List.append_nil] at hb'
    exact run_g Fn hr hG tk I1 hb' r q⟩
/-- the keywords' values -/
theorem k_nil : PK X [] (tDs (gx X C) W (ret [])) := ⟨fun pos pins s σ H Q I ⟨B, F, env, h⟩ => pk_nil.run pos pins s σ H Q I (h.pure rfl)⟩
theorem k_cons {nm : Option Str} {kpos : Pos} (ha : PE X e (tD (gx X C) W md)) (hr : PK X kws (tDs (gx X C) W mk)) : PK X (⟨nm, e, kpos⟩ :: kws) (tDs (gx X C) W (consM md mk)) := ⟨fun pos pins s σ H Q I h => (pk_cons ha hr).run pos pins s σ H Q I
  ((lift1 (Ra := RD (gx X C)) h).imp fun x H1 ⟨B, F, env, d, p, r⟩ => (p.bind (Ra := RDs (gx X C)) (as := [d]) (xs := [x]) ⟨x, [], rfl, r, rfl⟩).imp fun xs H2 ⟨F2, env2, ds, p2, ⟨x', r', e, rd, _⟩, rs⟩ => by
      cases e
      exact p2.pure ⟨x, xs, rfl, rd, rs⟩)⟩
/-- how written and named arguments come to the parameters: g -/
structure KwD (K : PySem.W.Frag) (fd : FuncData) (ps : List Str) (n : Nat) (ks : List Str) (gD : List D → List D → List D) (g : List Value → List Value → List Value) (gV : List V → List V → List V) : Prop where
  b : KBn K fd ps n ks g gV
  len : ∀ vs zs, vs.length = n → zs.length = ks.length → (gV vs zs).length = ps.length
  rel : ∀ {G : Gx} {F : Addr → Prop} {H : Hp} {ds es : List D} {vs zs : List V}, RpL G F H ds vs → RpL G F H es zs → RpL G F H (gD ds es) (gV vs zs)
def callK (n m : Nat) (gD : List D → List D → List D) (df : DF) (ds es : List D) : M Res := ask (ds.length = n ∧ es.length = m) (callD df (gD ds es))
variable {gD : List D → List D → List D} {g : List Value → List Value → List Value} {gV : List V → List V → List V} {j : Nat}
theorem Pt.callK {G : Gx} {B F : Addr → Prop} {env : List Slot} {σ : L2.St} {H : Hp} {Q : V → Hp → Prop} {ds es : List D} {vs zs : List V} (kd : KwD X.K fd ps j ks gD g gV) (hn : n = ps.length) (h : Pt G W (RRs G) σ H Q (DL.callK j ks.length gD df ds es) B F env) (r1 : RpL G F H ds vs) (r2 : RpL G F H es zs) :
    vs.length = j ∧ zs.length = ks.length ∧ spD G n df (gV vs zs) H Q (WE W σ) := by
  obtain ⟨⟨l1, l2⟩, h⟩ := h.asked
  have a1 := r1.length.symm.trans l1
  have a2 := r2.length.symm.trans l2
  exact ⟨a1, a2, h.callD (kd.rel r1 r2) ((kd.len vs zs a1 a2).trans hn.symm)⟩
/-- f(e, .., k = v, ..) -/
theorem c_kw (Fn : FnG X.prog X.w X.K X.mg X.base k f fd ps (spD (gx X C) n df)) (hr : Room k X.A) (hG : X.A.guards = some []) (tk : L2N.Takes X W) (hg : Gl X x) (hm : X.mg x = some (.ref f)) (hk : PySem.W.keepIn X.K (.ref f) = true) (kd : KwD X.K fd ps j ks gD g gV)
    (hn : n = ps.length) (ha : PA X (e :: es) (tDs (gx X C) W ms)) (hkw : PK X kws (tDs (gx X C) W mk)) (hall : (backToKw pos (keywordEach kws X.env)).all (·.1.isSome) = true := by rfl) (hks : (backToKw pos (keywordEach kws X.env)).filterMap (·.1) = ks := by rfl)
    (hdb : (x == ("__debug__" : Str)) = false := by decide) (he : starEach (e :: es) X.env = (false, eval e X.env) :: starEach es X.env := by rfl)
    (hpl : ((backTo pos (starEach (e :: es) X.env)).any (·.1) || (backToKw pos (keywordEach kws X.env)).any (·.1.isNone)) = false := by rfl) :
    PE X (.Call (.Name x p) (e :: es) kws pos) (tRs (gx X C) W (bnd ms fun ds => bnd mk fun es => callK j ks.length gD df ds es)) := ⟨fun pins s σ H Q I h => by
  refine wpAny_Call_Name_kw (ld_glob I hg hm (PySem.W.callWith_KW (h₀ := X.base) I.ok.mod.kin hk hall (thn (ha.run pos pins s σ H (fun vs H1 => Lift (gx X C) W (RDs (gx X C)) mk σ H1 fun zs H2 => vs.length = j ∧ zs.length = ks.length ∧ spD (gx X C) n df (gV vs zs) H2 Q (WE W σ)) I ?_) fun us s1 ⟨vs, H1, I1, r, q⟩ =>
    thn (hkw.run pos pins s1 σ H1 _ I1 q) fun ws s2 ⟨zs, H2, I2, rz, l1, l2, q2⟩ => ⟨I2.kIn, wpAny_call ?_⟩) hpl he) hdb)
  · exact (lift1 (Ra := RDs (gx X C)) h).imp fun vs H1 ⟨B, F, env, ds, q, r⟩ => (q.bind (Ra := RDs (gx X C)) (as := ds) (xs := vs) r).imp fun zs H2 ⟨F2, env2, es, q2, r1, r2⟩ => q2.callK kd hn r1 r2
  · rw [hks]
    exact run_g Fn hr hG tk I2 (kd.b.to s2 us ws I2.kIn (r.length.symm.trans l1) (rz.length.symm.trans l2)) (kd.b.rel r rz) q2⟩
/-- f(k = v, ..) -/
theorem c_kw0 (Fn : FnG X.prog X.w X.K X.mg X.base k f fd ps (spD (gx X C) n df)) (hr : Room k X.A) (hG : X.A.guards = some []) (tk : L2N.Takes X W) (hg : Gl X x) (hm : X.mg x = some (.ref f)) (hk : PySem.W.keepIn X.K (.ref f) = true) (kd : KwD X.K fd ps 0 ks gD g gV)
    (hn : n = ps.length) (hkw : PK X kws (tDs (gx X C) W mk)) (hall : (backToKw pos (keywordEach kws X.env)).all (·.1.isSome) = true := by rfl) (hks : (backToKw pos (keywordEach kws X.env)).filterMap (·.1) = ks := by rfl)
    (hdb : (x == ("__debug__" : Str)) = false := by decide) (hpl : ((backTo pos (starEach [] X.env)).any (·.1) || (backToKw pos (keywordEach kws X.env)).any (·.1.isNone)) = false := by rfl) :
    PE X (.Call (.Name x p) [] kws pos) (tRs (gx X C) W (bnd mk fun es => callK 0 ks.length gD df [] es)) := ⟨fun pins s σ H Q I h => by
  refine wpAny_Call_Name_kw (ld_glob I hg hm (PySem.W.callWith_KW0 (h₀ := X.base) I.ok.mod.kin hk hall (thn (hkw.run pos pins s σ H (fun zs H2 => zs.length = ks.length ∧ spD (gx X C) n df (gV [] zs) H2 Q (WE W σ)) I ?_) fun ws s2 ⟨zs, H2, I2, rz, l2, q2⟩ => ⟨I2.kIn, wpAny_call ?_⟩) hpl) hdb)
  · exact (lift1 (Ra := RDs (gx X C)) h).imp fun zs H1 ⟨B, F, env, es, q, r⟩ => (q.callK (ds := []) (vs := []) kd hn rfl r).2
  · rw [hks]
    exact run_g Fn hr hG tk I2 (kd.b.to s2 [] ws I2.kIn rfl (rz.length.symm.trans l2)) (kd.b.rel .nil rz) q2⟩
/-- a def's answer as a datum, as an object -/
def resD : Res → M D
  | .d d => ret d
  | .o (.lst ds) => ret (.lst ds)
  | _ => fail
def resO : Res → M O
  | .o o => ret o
  | _ => fail
theorem Pt.freeze {G : Gx} {B F : Addr → Prop} {σ : L2.St} {H : Hp} {env : List Slot} {Q : V → Hp → Prop} {ds : List D} {a : Addr} (p : Pt G W (RD G) σ H Q (ret (.lst ds)) B F env) (nB : ¬ B a) (ho : OwAt G F H a (.lst ds)) (hn : ∀ i, ¬ OwnAt env σ i a) : Q (.ref a) H := by
  obtain ⟨Qd, Ed, rel, hm, hq, he⟩ := p
  obtain ⟨vs, e1, r1⟩ := ho
  have st : Stp B F H (fun b => F b ∨ b = a) H := ⟨fun _ z => .inl z, fun b z => z.imp id fun w => by rw [w]; exact nB, fun b u z e _ => e, fun _ _ z => z, fun t => t.ext (fun _ z => .inl z) fun _ _ z => z⟩
  have rel' : Rel G B (fun b => F b ∨ b = a) σ env H := rel.step st (fun i b z => ⟨rfl, fun w => w.elim (rel.ownSome z).2.1 fun w => by subst w; exact hn i z⟩) fun b z => z.elim (rel.hF b) fun w => by rw [w]; exact Nt.of e1
  exact hq (.lst ds) env (.ref a) _ H hm st rel' ⟨a, vs, rfl, .inr rfl, e1, RpL.mono st ds vs r1⟩
theorem e_res {e : Expr} {mr : M Res} (h : PE X e (tRs (gx X C) W mr)) : PE X e (tD (gx X C) W (bnd mr resD)) := peImp h fun σ H Q q => (lift1 (Ra := RRs (gx X C)) q).imp fun x H1 ⟨B, F, env, r, p, rr⟩ => by
  cases r with
  | d d => exact Pt.pure (c := d) p rr
  | o o =>
    cases o with
    | lst ds => obtain ⟨a, ea, nF, nB, ho, hn⟩ := rr; subst ea; exact Pt.freeze p nB ho hn
    | _ => exact (Pt.no p).elim
theorem o_res {e : Expr} {mr : M Res} (h : PE X e (tRs (gx X C) W mr)) : PE X e (tO (gx X C) W (bnd mr resO)) := peImp h fun σ H Q q => (lift1 (Ra := RRs (gx X C)) q).imp fun x H1 ⟨B, F, env, r, p, rr⟩ => by
  cases r with
  | d d => exact (Pt.no p).elim
  | o o => exact Pt.pure (c := o) p rr

/-! ### built-ins over data -/
structure FitsC (G : Gx) (W : WX) (r : List V → Hp → VK → Prop) (k : List D → M D) : Prop where
  go : ∀ {σ : L2.St} {H : Hp} {Q : V → Hp → Prop} {B F : Addr → Prop} {env : List Slot} {xs : List V} {ds : List D}, Pt G W (RD G) σ H Q (k ds) B F env → RpL G F H ds xs → r xs H Q
theorem b_call {id : String} {r : List V → Hp → VK → Prop} {kk : List D → M D} (hc : CallR X (.builtin id) r) (hf : FitsC (gx X C) W r kk) (hg : Gl X x) (hm : X.mg x = none) (hv : bootBuiltins x = some (.builtin id)) (ha : PA X (e :: es) (tDs (gx X C) W ms)) (hn : x ≠ "__name__" := by decide)
    (hdb : (x == ("__debug__" : Str)) = false := by decide) (he : starEach (e :: es) X.env = (false, eval e X.env) :: starEach es X.env := by rfl) (hpl : (backTo pos (starEach es X.env)).any (·.1) = false := by rfl) :
    PE X (.Call (.Name x p) (e :: es) [] pos) (tD (gx X C) W (bnd ms kk)) := peImp (pe_callB hc hg hm hv ha hn hdb he hpl) fun σ H Q h => (lift1 (Ra := RDs (gx X C)) h).imp fun xs H1 ⟨B, F, env, ds, q, r⟩ => hf.go q r
theorem b_callT {T : String} {r : List V → Hp → VK → Prop} {kk : List D → M D} (hc : CallR X (.type T) r) (hf : FitsC (gx X C) W r kk) (hg : Gl X x) (hm : X.mg x = none) (hv : bootBuiltins x = some (.type T)) (ha : PA X (e :: es) (tDs (gx X C) W ms)) (hn : x ≠ "__name__" := by decide)
    (hdb : (x == ("__debug__" : Str)) = false := by decide) (he : starEach (e :: es) X.env = (false, eval e X.env) :: starEach es X.env := by rfl) (hpl : (backTo pos (starEach es X.env)).any (·.1) = false := by rfl) :
    PE X (.Call (.Name x p) (e :: es) [] pos) (tD (gx X C) W (bnd ms kk)) := peImp (pe_callTy hc hg hm hv ha hn hdb he hpl) fun σ H Q h => (lift1 (Ra := RDs (gx X C)) h).imp fun xs H1 ⟨B, F, env, ds, q, r⟩ => hf.go q r
def un1 (k : D → M D) (ds : List D) : M D := match ds with
  | [d] => k d
  | _ => fail
def un2 (k : D → D → M D) (ds : List D) : M D := match ds with
  | [d, e] => k d e
  | _ => fail
theorem fits1 {G : Gx} {r : List V → Hp → VK → Prop} {kk : D → M D} (h : ∀ {σ : L2.St} {H : Hp} {Q : V → Hp → Prop} {B F : Addr → Prop} {env : List Slot} {x : V} {d : D}, Pt G W (RD G) σ H Q (kk d) B F env → Rp G F H d x → r [x] H Q) : FitsC G W r (un1 kk) := by
  refine ⟨fun {σ H Q B F env xs ds} p rr => ?_⟩
  match ds, p, rr with
  | [d], p, ⟨v, r', e, rv, rn⟩ => cases (show _ = _ from rn); subst e; exact h p rv
  | [], p, _ => exact (Pt.no p).elim
  | _ :: _ :: _, p, _ => exact (Pt.no p).elim
theorem fits2 {G : Gx} {r : List V → Hp → VK → Prop} {kk : D → D → M D} (h : ∀ {σ : L2.St} {H : Hp} {Q : V → Hp → Prop} {B F : Addr → Prop} {env : List Slot} {x y : V} {d e : D}, Pt G W (RD G) σ H Q (kk d e) B F env → Rp G F H d x → Rp G F H e y → r [x, y] H Q) : FitsC G W r (un2 kk) := by
  refine ⟨fun {σ H Q B F env xs ds} p rr => ?_⟩
  match ds, p, rr with
  | [d, e], p, ⟨v, r', ee, rv, v2, r2, ee2, rv2, rn⟩ => cases (show _ = _ from rn); subst ee ee2; exact h p rv rv2
  | [], p, _ => exact (Pt.no p).elim
  | [_], p, _ => exact (Pt.no p).elim
  | _ :: _ :: _ :: _, p, _ => exact (Pt.no p).elim
def lenD : D → M D
  | .tup ds => ret (.int ds.length)
  | .lst ds => ret (.int ds.length)
  | .scr ns => ret (.int ns.length)
  | .str s => ask (s.length ≤ sizeLine) (ret (.int s.length))
  | _ => fail
theorem fits_len {G : Gx} : FitsC G W (fun xs H Q => ∃ x n, xs = [x] ∧ LenV G.K x H n ∧ Q (.int n) H) (un1 lenD) := fits1 fun {σ H Q B F env x d} p r => by
  cases d with
  | tup ds => obtain ⟨a, vs, e, h1, h2⟩ := r; subst e; exact ⟨_, ds.length, rfl, .inr ⟨vs, .inl h1.rd, h2.length⟩, p.pure (b := .int _) rfl⟩
  | lst ds => obtain ⟨a, vs, e, _, h1, h2⟩ := r; subst e; exact ⟨_, ds.length, rfl, .inl ⟨vs, SqL.of h1, h2.length⟩, p.pure (b := .int _) rfl⟩
  | scr ns => obtain ⟨a, e, h1⟩ := scrSq r; subst e; exact ⟨_, ns.length, rfl, .inl ⟨_, h1, by rw [List.length_map]⟩, p.pure (b := .int _) rfl⟩
  | str s => cases (show _ = _ from r); exact ⟨_, s.length, rfl, ⟨(Pt.asked p).1, rfl⟩, (Pt.asked p).2.pure (b := .int _) rfl⟩
  | _ => exact (Pt.no p).elim
def absD : D → M D
  | .int i => ret (.int (if i < 0 then -i else i))
  | _ => fail
theorem fits_abs {G : Gx} : FitsC G W (fun xs H Q => ∃ i, xs = [.int i] ∧ Q (.int (if i < 0 then -i else i)) H) (un1 absD) := fits1 fun {σ H Q B F env x d} p r => by
  cases d with
  | int i => cases (show _ = _ from r); exact ⟨i, rfl, p.pure (b := .int _) rfl⟩
  | _ => exact (Pt.no p).elim
def intD : D → M D
  | .int i => ret (.int i)
  | .bl k => ret (.int (if k then 1 else 0))
  | _ => fail
theorem fits_int {G : Gx} : FitsC G W (fun xs H Q => (∃ i, xs = [.int i] ∧ Q (.int i) H) ∨ ∃ k, xs = [.bl k] ∧ Q (.int (if k then 1 else 0)) H) (un1 intD) := fits1 fun {σ H Q B F env x d} p r => by
  cases d with
  | int i => cases (show _ = _ from r); exact .inl ⟨i, rfl, p.pure (b := .int _) rfl⟩
  | bl k => cases (show _ = _ from r); exact .inr ⟨k, rfl, p.pure (b := .int _) rfl⟩
  | _ => exact (Pt.no p).elim
def strD : D → M D
  | .int i => ask (i.natAbs.log2 < 1920) (ret (.str (toString i)))
  | _ => fail
theorem fits_str {G : Gx} : FitsC G W (fun xs H Q => ∃ i, xs = [.int i] ∧ i.natAbs.log2 < 1920 ∧ Q (.str (toString i)) H) (un1 strD) := fits1 fun {σ H Q B F env x d} p r => by
  cases d with
  | int i => cases (show _ = _ from r); exact ⟨i, rfl, (Pt.asked p).1, (Pt.asked p).2.pure (b := .str _) rfl⟩
  | _ => exact (Pt.no p).elim
def max2D : D → D → M D
  | .int i, .int j => ret (.int (if j > i then j else i))
  | _, _ => fail
def min2D : D → D → M D
  | .int i, .int j => ret (.int (if j < i then j else i))
  | _, _ => fail
theorem fits_max2 {G : Gx} : FitsC G W (fun xs H Q => ∃ i j, xs = [.int i, .int j] ∧ Q (.int (if j > i then j else i)) H) (un2 max2D) := fits2 fun {σ H Q B F env x y d e} p r r' => by
  cases d <;> cases e <;> first | exact (Pt.no p).elim | (cases (show _ = _ from r); cases (show _ = _ from r'); exact ⟨_, _, rfl, Pt.pure p (b := .int _) rfl⟩)
theorem fits_min2 {G : Gx} : FitsC G W (fun xs H Q => ∃ i j, xs = [.int i, .int j] ∧ Q (.int (if j < i then j else i)) H) (un2 min2D) := fits2 fun {σ H Q B F env x y d e} p r r' => by
  cases d <;> cases e <;> first | exact (Pt.no p).elim | (cases (show _ = _ from r); cases (show _ = _ from r'); exact ⟨_, _, rfl, Pt.pure p (b := .int _) rfl⟩)
def divD : D → D → M D
  | .int i, .int j => ask (0 < j ∧ j < 1073741824) (ret (.pr [.int (i / j), .int (i % j)]))
  | _, _ => fail
theorem fits_divmod {G : Gx} : FitsC G W (fun xs H Q => ∃ i j, xs = [.int i, .int j] ∧ CDiv i j ∧ ∀ p, H p = none → Q (.ref p) (upd H p (.tup [.int (i / j), .int (i % j)]))) (un2 divD) := fits2 fun {σ H Q B F env x y d e} p r r' => by
  cases d <;> cases e <;> first
    | exact (Pt.no p).elim
    | (cases (show _ = _ from r); cases (show _ = _ from r'); exact ⟨_, _, rfl, (Pt.asked p).1, fun q hq => (Pt.asked p).2.pr ⟨_, _, rfl, rfl, _, _, rfl, rfl, rfl⟩ hq⟩)
/-- tuple(x) -/
def tupD : D → M D
  | .tup ds => ret (.tup ds)
  | .lst ds => ret (.tup ds)
  | _ => fail
theorem fits_tuple {G : Gx} : FitsC G W (DLt.fOf G.K) (un1 tupD) := fits1 fun {σ H Q B F env x d} p r => by
  cases d with
  | tup ds => obtain ⟨a, vs, e, h1, h2⟩ := id r; subst e; exact ⟨a, vs, rfl, .inr ⟨.inl h1.rd, Pt.pure (c := D.tup ds) p r⟩⟩
  | lst ds => obtain ⟨a, vs, e, _, h1, h2⟩ := r; subst e; exact ⟨a, vs, rfl, .inl ⟨SqL.of h1, Pt.tup p h2⟩⟩
  | _ => exact (Pt.no p).elim
def listD : D → M D
  | .tup ds => ret (.lst ds)
  | .lst ds => ret (.lst ds)
  | .scr ns => ret (.lst (ns.map .int))
  | _ => fail
def listO : D → M O
  | .tup ds => ret (.lst ds)
  | .lst ds => ret (.lst ds)
  | .scr ns => ret (.lst (ns.map .int))
  | _ => fail
theorem boolsD : ∀ {bs : List Bool} {ds : List D}, ds = bs.map .bl → ∀ {G : Gx} {F : Addr → Prop} {H : Hp} {vs : List V}, RpL G F H ds vs → vs = bs.map .bl
  | [], _, rfl, _, _, _, _, r => r
  | b :: bs, _, rfl, G, F, H, _, ⟨v, r', e, rv, rn⟩ => by subst e; rw [show v = V.bl b from rv, boolsD rfl rn]; rfl
def boolsOf : List D → Option (List Bool)
  | [] => some []
  | .bl b :: ds => (boolsOf ds).map (b :: ·)
  | _ => none
theorem boolsOf_eq : ∀ {ds : List D} {bs : List Bool}, boolsOf ds = some bs → ds = bs.map .bl
  | [], bs, h => by cases h; rfl
  | .bl b :: ds, bs, h => by
    cases e : boolsOf ds with
    | none => simp [boolsOf, e] at h
    | some l => simp [boolsOf, e] at h; subst h; rw [List.map_cons, ← boolsOf_eq e]
  | .non :: _, _, h => by cases h
  | .int _ :: _, _, h => by cases h
  | .str _ :: _, _, h => by cases h
  | .byt _ :: _, _, h => by cases h
  | .tup _ :: _, _, h => by cases h
  | .pr _ :: _, _, h => by cases h
  | .lst _ :: _, _, h => by cases h
  | .hall _ _ :: _, _, h => by cases h
  | .scr _ :: _, _, h => by cases h
  | .emp :: _, _, h => by cases h
  | .exn _ _ _ :: _, _, h => by cases h
def allM : D → M D
  | .lst ds => match boolsOf ds with
    | some bs => ret (.bl (bs.all id))
    | none => fail
  | _ => fail
def anyM : D → M D
  | .lst ds => match boolsOf ds with
    | some bs => ret (.bl (bs.any id))
    | none => fail
  | _ => fail
theorem fits_all {G : Gx} : FitsC G W (rAll G.K) (un1 allM) := fits1 fun {σ H Q B F env x d} p r => by
  cases d with
  | lst ds =>
    obtain ⟨a, vs, e, _, h1, h2⟩ := r
    subst e
    cases q : boolsOf ds with
    | none => exact (Pt.no (by simpa only [allM, q] using p)).elim
    | some bs =>
      have p' : Pt G W (RD G) σ H Q (ret (.bl (bs.all id))) B F env := by simpa only [allM, q] using p
      exact ⟨a, bs, rfl, SqL.of (by rw [h1, boolsD (boolsOf_eq q) h2]), p'.pure (b := .bl _) rfl⟩
  | _ => exact (Pt.no p).elim
theorem fits_any {G : Gx} : FitsC G W (rAny G.K) (un1 anyM) := fits1 fun {σ H Q B F env x d} p r => by
  cases d with
  | lst ds =>
    obtain ⟨a, vs, e, _, h1, h2⟩ := r
    subst e
    cases q : boolsOf ds with
    | none => exact (Pt.no (by simpa only [anyM, q] using p)).elim
    | some bs =>
      have p' : Pt G W (RD G) σ H Q (ret (.bl (bs.any id))) B F env := by simpa only [anyM, q] using p
      exact ⟨a, bs, rfl, SqL.of (by rw [h1, boolsD (boolsOf_eq q) h2]), p'.pure (b := .bl _) rfl⟩
  | _ => exact (Pt.no p).elim
theorem fits_list {G : Gx} : FitsC G W (fun xs H Q => ∃ p ys, xs = [.ref p] ∧ (SqL G.K H p ys ∨ SqT G.K H p ys) ∧ ∀ l, H l = none → Q (.ref l) (upd H l (.lst ys))) (un1 listD) := fits1 fun {σ H Q B F env x d} p r => by
  cases d with
  | tup ds => obtain ⟨a, vs, e, h1, h2⟩ := r; subst e; exact ⟨a, vs, rfl, .inr (.inl h1.rd), fun l hl => Pt.lst p h2 hl⟩
  | lst ds => obtain ⟨a, vs, e, _, h1, h2⟩ := r; subst e; exact ⟨a, vs, rfl, .inl (SqL.of h1), fun l hl => Pt.lst p h2 hl⟩
  | scr ns => obtain ⟨a, e, h1⟩ := scrSq r; subst e; exact ⟨a, _, rfl, .inl h1, fun l hl => Pt.lst p (RpL.ints.mpr rfl) hl⟩
  | _ => exact (Pt.no p).elim
/-- list(x), the new list one's own -/
theorem o_list (hg : Gl X "list") (hm : X.mg "list" = none) (hv : bootBuiltins "list" = some (.type "list")) (ha : PA X [e] (tDs (gx X C) W ms)) (he : starEach [e] X.env = (false, eval e X.env) :: starEach [] X.env := by rfl) (hpl : (backTo pos (starEach [] X.env)).any (·.1) = false := by rfl) :
    PE X (.Call (.Name "list" p) [e] [] pos) (tO (gx X C) W (bnd ms fun ds => match ds with
      | [d] => listO d
      | _ => fail)) := peImp (pe_callTy call_list_of hg hm hv ha (by decide) (by decide) he hpl) fun σ H Q h => (lift1 (Ra := RDs (gx X C)) h).imp fun xs H1 ⟨B, F, env, ds, q, r⟩ => by
  match ds, q, r with
  | [d], q, ⟨v, r', e, rv, rn⟩ =>
    cases (show _ = _ from rn)
    subst e
    cases d with
    | tup ds => obtain ⟨a, vs, e, h1, h2⟩ := rv; subst e; exact ⟨a, vs, rfl, .inr (.inl h1.rd), fun l hl => Pt.olst q h2 hl⟩
    | lst ds => obtain ⟨a, vs, e, _, h1, h2⟩ := rv; subst e; exact ⟨a, vs, rfl, .inl (SqL.of h1), fun l hl => Pt.olst q h2 hl⟩
    | scr ns => obtain ⟨a, e, h1⟩ := scrSq rv; subst e; exact ⟨a, _, rfl, .inl h1, fun l hl => Pt.olst q (RpL.ints.mpr rfl) hl⟩
    | _ => exact (Pt.no q).elim
  | [], q, _ => exact (Pt.no q).elim
  | _ :: _ :: _, q, _ => exact (Pt.no q).elim
end
end DL

set_option Elab.async false
set_option linter.all false
set_option maxRecDepth 100000
set_option maxHeartbeats 2000000
/-! Own lists: reading and writing; several targets. -/
namespace DL
open PySem PySem.Spec PyProof.Rows L2
variable [Tbs]

/-- the own list in slot i -/
def asL : O → M (List D)
  | .lst ds => ret ds
  | _ => fail
def olist (i : Nat) : M (List D) := bnd (getO i) asL
def ixL (ds : List D) : D → M D
  | .int k => match atI ds k with
    | some d => ret d
    | none => fail
  | _ => fail
section
variable {G : Gx} {W : WX} {B F : Addr → Prop} {σ : L2.St} {H : Hp} {env : List Slot} {α β γ δ : Type}
variable {R : (Addr → Prop) → (Addr → Prop) → List Slot → L2.St → Hp → γ → δ → Prop} {Q : δ → Hp → Prop} {i : Nat} {a : Addr} {o o' : O}
theorem Pt.getO {k : O → M γ} (h : Pt G W R σ H Q (bnd (DL.getO i) k) B F env) : ∃ a o, σ[i]? = some (some (.ref a)) ∧ OwAt G F H a o ∧ OwnAt env σ i a ∧ Pt G W R σ H Q (k o) B F env := by
  obtain ⟨Qd, Ed, rel, hm, hq, he⟩ := h
  obtain ⟨o, ho, hm⟩ := getO_spec (Q := fun o env' => k o env' Qd Ed) (E := Ed) hm
  obtain ⟨a, e1, _, _, e2, e3⟩ := rel.owned ho
  exact ⟨a, o, e1, e2, e3, Qd, Ed, rel, hm, hq, he⟩
theorem Pt.olist {k : List D → M γ} (h : Pt G W R σ H Q (bnd (DL.olist i) k) B F env) : ∃ a ds vs, σ[i]? = some (some (.ref a)) ∧ H a = some (.lst vs) ∧ RpL G F H ds vs ∧ OwnAt env σ i a ∧ Pt G W R σ H Q (k ds) B F env := by
  have h : Pt G W R σ H Q (bnd (DL.getO i) fun o => bnd (asL o) k) B F env := h
  obtain ⟨a, o, e1, e2, e3, p⟩ := h.getO
  cases o with
  | lst ds => obtain ⟨vs, h1, h2⟩ := e2; exact ⟨a, ds, vs, e1, h1, h2, e3, p⟩
  | _ => exact (Pt.unknown p).elim
theorem OwnAt.here (h : OwnAt env σ i a) {b : Addr} (e : σ[i]? = some (some (.ref b))) : a = b := by
  have z := h.2
  rw [e] at z
  cases z; rfl
theorem Pt.rel {m : M γ} (h : Pt G W R σ H Q m B F env) : Rel G B F σ env H := let ⟨_, _, r, _⟩ := h; r
theorem putO_spec {env : List Slot} {Q : Unit → List Slot → Prop} {E : Exn → List Slot → Prop} (h : putO i o env Q E) : Q () (putS env i o) := by
  unfold putO at h
  unfold putS
  cases q : env[i]? with
  | none => rw [q] at h; exact h.elim
  | some s => rw [q] at h; cases s <;> first | exact h | exact h.elim
theorem Pt.putO {k : Unit → M γ} {u : HO} (h : Pt G W R σ H Q (bnd (DL.putO i o') k) B F env) (own : OwnAt env σ i a) (hw : OwAt G F H a o) (hu : OwAt G F (upd H a u) a o') : Pt G W R σ (upd H a u) Q (k ()) B F (putS env i o') := by
  obtain ⟨Qd, Ed, rel, hm, hq, he⟩ := h
  obtain ⟨st, rel'⟩ := rel.put own hw hu
  exact ⟨Qd, Ed, rel', putO_spec (Q := fun _ env' => k () env' Qd Ed) hm, fun x env' b F' H' q s2 => hq x env' b F' H' q (st.trans s2), fun x env' c d F' H' q s2 => he x env' c d F' H' q (st.trans s2)⟩
theorem own_lst {ds : List D} {vs : List V} (rel : Rel G B F σ env H) (own : OwnAt env σ i a) (hw : OwAt G F H a o) (r : RpL G F H ds vs) : OwAt G F (upd H a (.lst vs)) a (.lst ds) := by
  obtain ⟨_, nF, nB⟩ := rel.ownSome own
  exact ⟨vs, upd_same, RpL.mono (stp_own (B := B) (u := .lst vs) nF nB hw.notup hw.noTab hw.noCode) ds vs r⟩
theorem Pt.putL {k : Unit → M γ} {ds ds' : List D} {vs vs' : List V} (h : Pt G W R σ H Q (bnd (DL.putO i (.lst ds')) k) B F env) (own : OwnAt env σ i a) (hv : H a = some (.lst vs)) (rv : RpL G F H ds vs) (r : RpL G F H ds' vs') :
    Pt G W R σ (upd H a (.lst vs')) Q (k ()) B F (putS env i (.lst ds')) := h.putO (o := .lst ds) own ⟨vs, hv, rv⟩ (own_lst (o := .lst ds) h.rel own ⟨vs, hv, rv⟩ r)
theorem Pt.keepL {m : M γ} {ds : List D} {vs vs' : List V} {d : D} {v : V} (h : Pt G W R σ H Q m B F env) (own : OwnAt env σ i a) (hv : H a = some (.lst vs)) (rv : RpL G F H ds vs) (r : Rp G F H d v) : Rp G F (upd H a (.lst vs')) d v :=
  Rp.mono (stp_own (B := B) (h.rel.ownSome own).2.1 (h.rel.ownSome own).2.2 (OwAt.notup (o := .lst ds) ⟨vs, hv, rv⟩) (OwAt.noTab (o := .lst ds) ⟨vs, hv, rv⟩) (OwAt.noCode (o := .lst ds) ⟨vs, hv, rv⟩)) d v r
theorem atI_rp {ds : List D} {vs : List V} {k : Int} {d : D} (r : RpL G F H ds vs) (h : atI ds k = some d) : ∃ j v, ixN vs.length k = some j ∧ ds[j]? = some d ∧ vs[j]? = some v ∧ Rp G F H d v := by
  unfold atI at h
  cases q : ixN ds.length k with
  | none => rw [q] at h; cases h
  | some j =>
    rw [q] at h
    have h' : ds[j]? = some d := h
    obtain ⟨v, hv, rv⟩ := r.get h'
    exact ⟨j, v, by rw [← r.length]; exact q, h', hv, rv⟩
end

section
variable {X : Cx} {C : Addr} {W : WX} {a b c : Expr} {es : List Expr} {ma mb mc : M D} {ms : M (List D)} {pos apos cpos p : Pos} {i : Nat}
/-- own[b] -/
def oixM (i : Nat) (mb : M D) : M D := bnd (getO i) fun _ => bnd mb fun k => bnd (olist i) fun ds => ixL ds k
theorem e_oix (ha : PE X a (tVar i)) (hb : PE X b (tD (gx X C) W mb)) (hs : PlainIx b := by exact fun _ _ => rfl) : PE X (.Subscript a b pos) (tD (gx X C) W (oixM i mb)) :=
  peImp (pe_ix ix_seq ha hb hs) fun σ H Q ⟨B, F, env, h⟩ => by
    obtain ⟨q, _, e1, _, e3, h⟩ := h.getO
    refine ⟨_, e1, (h.bind (Ra := RD (gx X C)) (as := []) (xs := []) rfl).imp fun y H2 ⟨F2, env2, d, p2, _, r2⟩ => ?_⟩
    obtain ⟨q', ds, vs, e1', hv, rv, _, p3⟩ := p2.olist
    rw [e1] at e1'
    cases e1'
    cases d with
    | int k =>
      cases z : atI ds k with
      | none => simp only [ixL, z] at p3; exact (Pt.no p3).elim
      | some d =>
        simp only [ixL, z] at p3
        obtain ⟨v, hv', rv'⟩ := rv.at z
        exact .inl ⟨q, vs, k, v, rfl, r2, SqL.of hv, hv', p3.pure rv'⟩
    | _ => exact (Pt.no p3).elim
/-- len(own) -/
def olenM (i : Nat) : M D := bnd (olist i) fun ds => ret (.int ds.length)
theorem e_olen (hg : Gl X "len") (hm : X.mg "len" = none) (ha : PE X a (tVar i)) (na : starEach [a] X.env = (false, eval a X.env) :: starEach [] X.env := by rfl) (hpl : (backTo pos (starEach [] X.env)).any (·.1) = false := by rfl) :
    PE X (.Call (.Name "len" p) [a] [] pos) (tD (gx X C) W (olenM i)) :=
  peImp (pe_callB call_len hg hm boot_len (pa_cons ha pa_nil na) (by decide) (by decide) na hpl) fun σ H Q ⟨B, F, env, h⟩ => by
    obtain ⟨q, ds, vs, e1, hv, rv, _, p3⟩ := h.olist
    exact ⟨_, e1, _, ds.length, rfl, .inl ⟨vs, SqL.of hv, rv.length⟩, p3.pure (b := .int _) rfl⟩

/-! ### x in own -/
def oinM (neg : Bool) (ma : M D) (i : Nat) : M D := bnd (getO i) fun _ => bnd ma fun x => bnd (olist i) fun ds => ask (flatD x = true ∧ ds.all flatD = true) (ret (.bl (if neg then !ds.any fun d => eqv d x else ds.any fun d => eqv d x)))
theorem oin_reads {neg : Bool} {σ : L2.St} {H : Hp} {Q : V → Hp → Prop} (h : Lift (gx X C) W (RD (gx X C)) (oinM neg ma i) σ H Q) : tD (gx X C) W ma σ H fun x H1 => tVar i σ H1 fun y H2 => rIn X.K neg x y H2 Q := by
  obtain ⟨B, F, env, h⟩ := h
  obtain ⟨q, _, e1, _, e3, h⟩ := Pt.getO h
  refine (h.bind (Ra := RD (gx X C)) (as := []) (xs := []) rfl).imp fun y H2 ⟨F2, env2, d, p2, _, r2⟩ => ?_
  obtain ⟨q', ds, vs, e1', hv, rv, _, p3⟩ := p2.olist
  obtain ⟨⟨g1, g2⟩, p3⟩ := p3.asked
  refine ⟨_, e1', q', vs, rfl, .inl (SqL.of hv), flat_of r2 g1, flats_of rv g2, ?_⟩
  cases neg with
  | true => rw [if_pos rfl] at p3 ⊢; exact p3.pure (b := .bl _) (by rw [in_flat r2 g1 rv g2]; rfl)
  | false => rw [if_neg Bool.false_ne_true] at p3 ⊢; exact p3.pure (b := .bl _) (by rw [in_flat r2 g1 rv g2]; rfl)
theorem e_oin (ha : PE X a (tD (gx X C) W ma)) (hb : PE X b (tVar i)) (hm : behindInMarks .In b = false) : PE X (.Compare a [.In] [b] pos) (tD (gx X C) W (oinM false ma i)) :=
  peImp (pe_cmpR op_in_seq ha hb hm) fun σ H Q h => oin_reads h
theorem e_onin (ha : PE X a (tD (gx X C) W ma)) (hb : PE X b (tVar i)) (hm : behindInMarks .NotIn b = false) : PE X (.Compare a [.NotIn] [b] pos) (tD (gx X C) W (oinM true ma i)) :=
  peImp (pe_cmpR op_notIn_seq ha hb hm) fun σ H Q h => oin_reads h
/-- a datum that is a bool, as a test -/
theorem bnd_asB {ma : M D} {σ : L2.St} {H : Hp} {Q : Bool → Hp → Prop} (h : Lift (gx X C) W RB (bnd ma asB) σ H Q) : Lift (gx X C) W (RD (gx X C)) ma σ H fun z H' => ∃ c, z = .bl c ∧ Q c H' := by
  obtain ⟨B, F, env, h⟩ := h
  exact ⟨B, F, env, h.asb⟩
theorem t_oin (ha : PE X a (tD (gx X C) W ma)) (hb : PE X b (tVar i)) (hm : behindInMarks .In b = false) : PT X (.Compare a [.In] [b] pos) (tBl (gx X C) W (bnd (oinM false ma i) asB)) :=
  ptImp (pt_cmpR op_in_seq ha hb hm) fun σ H Q h => oin_reads (bnd_asB h)
theorem t_onin (ha : PE X a (tD (gx X C) W ma)) (hb : PE X b (tVar i)) (hm : behindInMarks .NotIn b = false) : PT X (.Compare a [.NotIn] [b] pos) (tBl (gx X C) W (bnd (oinM true ma i) asB)) :=
  ptImp (pt_cmpR op_notIn_seq ha hb hm) fun σ H Q h => oin_reads (bnd_asB h)

/-! ### own.append(b), own.pop(b), own.pop(), own.remove(b) -/
def oappM (i : Nat) (mb : M D) : M D := bnd (olist i) fun _ => bnd mb fun d => bnd (olist i) fun ds => ask (ds.length < sizeLine) (bnd (putO i (.lst (ds ++ [d]))) fun _ => ret .non)
theorem e_oapp (ha : PE X a (tVar i)) (hb : PE X b (tD (gx X C) W mb)) (hbase : attributeBase a "append" X.env (eval a X.env) = eval a X.env := by rfl)
    (hfew : ((backTo cpos (starEach [b] X.env)).all (fun x => !x.1) && (backToKw cpos (keywordEach [] X.env)).all (fun x => x.1.isSome)
      && decide ([b].length + ([] : List Keyword).length + (if ([] : List Keyword).isEmpty then 0 else 1) < 30)) = true := by rfl)
    (hline : (apos.endLine == cpos.line) = true := by rfl) (hs : starEach [b] X.env = (false, eval b X.env) :: starEach [] X.env := by rfl) (hpl : (backTo cpos (starEach [] X.env)).any (·.1) = false := by rfl) :
    PE X (.Call (.Attribute a "append" apos) [b] [] cpos) (tD (gx X C) W (oappM i mb)) :=
  peImp (pe_bm F.plainAttrs_list F.slot_list_append F.type_list_append mt_append ha (pa_cons hb pa_nil hs) hbase hfew hline hs hpl) fun σ H Q ⟨B, F, env, h⟩ => by
    obtain ⟨q, _, vs0, e1, hv0, _, _, h⟩ := Pt.olist h
    refine ⟨_, e1, .inl ⟨rfl, vs0, SqL.of hv0⟩, (h.bind (Ra := RD (gx X C)) (as := []) (xs := []) rfl).imp fun y H2 ⟨F2, env2, d, p2, _, r2⟩ => ?_⟩
    obtain ⟨q', ds, vs, e1', hv, rv, own, p3⟩ := p2.olist
    rw [e1] at e1'; cases e1'
    obtain ⟨sz, p3⟩ := p3.asked
    refine ⟨q, vs, y, rfl, rfl, hv, by rw [← rv.length]; exact sz, ?_⟩
    exact (p3.putL own hv rv (rv.snoc r2)).pure (b := .non) rfl
def opopM (i : Nat) (mb : M D) : M D := bnd (olist i) fun _ => bnd mb fun d => bnd (olist i) fun ds => ask (ds.length ≤ sizeLine) <| match d with
  | .int k => match ixN ds.length k with
    | some j => match ds[j]? with
      | some d => bnd (putO i (.lst (ds.eraseIdx j))) fun _ => ret d
      | none => fail
    | none => fail
  | _ => fail
theorem e_opop (ha : PE X a (tVar i)) (hb : PE X b (tD (gx X C) W mb)) (hbase : attributeBase a "pop" X.env (eval a X.env) = eval a X.env := by rfl)
    (hfew : ((backTo cpos (starEach [b] X.env)).all (fun x => !x.1) && (backToKw cpos (keywordEach [] X.env)).all (fun x => x.1.isSome)
      && decide ([b].length + ([] : List Keyword).length + (if ([] : List Keyword).isEmpty then 0 else 1) < 30)) = true := by rfl)
    (hline : (apos.endLine == cpos.line) = true := by rfl) (hs : starEach [b] X.env = (false, eval b X.env) :: starEach [] X.env := by rfl) (hpl : (backTo cpos (starEach [] X.env)).any (·.1) = false := by rfl) :
    PE X (.Call (.Attribute a "pop" apos) [b] [] cpos) (tD (gx X C) W (opopM i mb)) :=
  peImp (pe_bm F.plainAttrs_list F.slot_list_pop F.type_list_pop mt_popAt ha (pa_cons hb pa_nil hs) hbase hfew hline hs hpl) fun σ H Q ⟨B, F, env, h⟩ => by
    obtain ⟨q, _, vs0, e1, hv0, _, _, h⟩ := Pt.olist h
    refine ⟨_, e1, .inl ⟨rfl, vs0, SqL.of hv0⟩, (h.bind (Ra := RD (gx X C)) (as := []) (xs := []) rfl).imp fun y H2 ⟨F2, env2, d, p2, _, r2⟩ => ?_⟩
    obtain ⟨q', ds, vs, e1', hv, rv, own, p3⟩ := p2.olist
    rw [e1] at e1'; cases e1'
    obtain ⟨lz, p3⟩ := p3.asked
    cases d with
    | int k =>
      cases z : ixN ds.length k with
      | none => simp only [z] at p3; exact (Pt.no p3).elim
      | some j =>
        cases z2 : ds[j]? with
        | none => simp only [z, z2] at p3; exact (Pt.no p3).elim
        | some d =>
          simp only [z, z2] at p3
          obtain ⟨v, hv', rv'⟩ := rv.get z2
          rw [rv.length] at z
          obtain ⟨s1, s2, s3, s4⟩ := ixN_seq z
          have big := line63
          have sz : vs.length < 2 ^ 63 := by rw [← rv.length]; omega
          refine ⟨q, vs, k, j, v, rfl, by rw [show y = V.int k from r2], hv, by omega, by omega, s1, hv', ?_⟩
          exact (p3.putL own hv rv (rv.eraseIdx j)).pure (p3.keepL own hv rv rv')
    | _ => exact (Pt.no p3).elim
def opop0M (i : Nat) : M D := bnd (olist i) fun ds => match ds[ds.length - 1]? with
  | some d => bnd (putO i (.lst ds.dropLast)) fun _ => ret d
  | none => fail
theorem e_opop0 (ha : PE X a (tVar i)) (hbase : attributeBase a "pop" X.env (eval a X.env) = eval a X.env := by rfl) (hline : (apos.endLine == cpos.line) = true := by rfl) :
    PE X (.Call (.Attribute a "pop" apos) [] [] cpos) (tD (gx X C) W (opop0M i)) :=
  peImp (pe_bm0 F.plainAttrs_list F.slot_list_pop F.type_list_pop mt_pop ha hbase hline) fun σ H Q ⟨B, F, env, h⟩ => by
    obtain ⟨q, ds, vs, e1, hv, rv, own, p3⟩ := Pt.olist h
    refine ⟨_, e1, .inl ⟨rfl, vs, SqL.of hv⟩, ?_⟩
    cases z2 : ds[ds.length - 1]? with
    | none => simp only [z2] at p3; exact (Pt.no p3).elim
    | some d =>
      simp only [z2] at p3
      obtain ⟨v, hv', rv'⟩ := rv.get z2
      rw [rv.length] at hv'
      refine ⟨q, vs, v, rfl, rfl, hv, hv', ?_⟩
      have rdl : RpL (gx X C) F H ds.dropLast vs.dropLast := by
        rw [List.dropLast_eq_take, List.dropLast_eq_take, rv.length]; exact rv.take _
      exact (p3.putL own hv rv rdl).pure (p3.keepL own hv rv rv')
/-- ints alone -/
def intsOf : List D → Option (List Int)
  | [] => some []
  | .int i :: r => (intsOf r).map (i :: ·)
  | _ => none
theorem intsOf_eq : ∀ {ds : List D} {ns : List Int}, intsOf ds = some ns → ds = ns.map .int
  | [], _, h => by cases h; rfl
  | d :: ds, ns, h => by
    cases d with
    | int k =>
      cases e : intsOf ds with
      | none => simp [intsOf, e] at h
      | some l => simp [intsOf, e] at h; subst h; rw [List.map_cons, ← intsOf_eq e]
    | _ => cases h
theorem intsOf_map : ∀ ns : List Int, intsOf (ns.map .int) = some ns
  | [] => rfl
  | k :: ns => by rw [List.map_cons]; show (intsOf (ns.map .int)).map (k :: ·) = _; rw [intsOf_map ns]; rfl
theorem idxOf_first : ∀ {ns : List Int} {k : Int} {m : Nat}, m < ns.idxOf k → ns[m]? ≠ some k
  | [], k, m, h => by simp
  | n :: ns, k, m, h => by
    rw [List.idxOf_cons] at h
    by_cases e : n = k
    · subst e; simp at h
    · rw [show (n == k) = false from beq_eq_false_iff_ne.mpr e] at h
      cases m with
      | zero => simpa using e
      | succ m => rw [List.getElem?_cons_succ]; exact idxOf_first (by simpa using h)
def oremM (i : Nat) (mb : M D) : M D := bnd (olist i) fun _ => bnd mb fun d => bnd (olist i) fun ds => match intsOf ds, d with
  | some ns, .int k => ask (k ∈ ns) (bnd (putO i (.lst ((ns.erase k).map .int))) fun _ => ret .non)
  | _, _ => fail
theorem e_orem (ha : PE X a (tVar i)) (hb : PE X b (tD (gx X C) W mb)) (hbase : attributeBase a "remove" X.env (eval a X.env) = eval a X.env := by rfl)
    (hfew : ((backTo cpos (starEach [b] X.env)).all (fun x => !x.1) && (backToKw cpos (keywordEach [] X.env)).all (fun x => x.1.isSome)
      && decide ([b].length + ([] : List Keyword).length + (if ([] : List Keyword).isEmpty then 0 else 1) < 30)) = true := by rfl)
    (hline : (apos.endLine == cpos.line) = true := by rfl) (hs : starEach [b] X.env = (false, eval b X.env) :: starEach [] X.env := by rfl) (hpl : (backTo cpos (starEach [] X.env)).any (·.1) = false := by rfl) :
    PE X (.Call (.Attribute a "remove" apos) [b] [] cpos) (tD (gx X C) W (oremM i mb)) :=
  peImp (pe_bm F.plainAttrs_list F.slot_list_remove F.type_list_remove mt_remove ha (pa_cons hb pa_nil hs) hbase hfew hline hs hpl) fun σ H Q ⟨B, F, env, h⟩ => by
    obtain ⟨q, _, vs0, e1, hv0, _, _, h⟩ := Pt.olist h
    refine ⟨_, e1, .inl ⟨rfl, vs0, SqL.of hv0⟩, (h.bind (Ra := RD (gx X C)) (as := []) (xs := []) rfl).imp fun y H2 ⟨F2, env2, d, p2, _, r2⟩ => ?_⟩
    obtain ⟨q', ds, vs, e1', hv, rv, own, p3⟩ := p2.olist
    rw [e1] at e1'; cases e1'
    cases z : intsOf ds with
    | none => simp only [z] at p3; exact (Pt.no p3).elim
    | some ns =>
      cases d with
      | int k =>
        simp only [z] at p3
        obtain ⟨kin, p3⟩ := p3.asked
        have eds := intsOf_eq z
        subst eds
        have evs := RpL.ints.mp rv
        subst evs
        have hj : ns[ns.idxOf k]? = some k := by
          rw [List.getElem?_eq_getElem (List.idxOf_lt_length_of_mem kin), List.getElem_idxOf]
        refine ⟨q, ns, k, ns.idxOf k, rfl, by rw [show y = V.int k from r2], hv, hj, fun m hm e => ?_, ?_⟩
        · exact idxOf_first hm e
        · rw [← List.erase_eq_eraseIdx_of_idxOf rfl]
          exact (p3.putL own hv rv (RpL.ints.mpr rfl)).pure (b := .non) rfl
      | _ => simp only [z] at p3; exact (Pt.no p3).elim
end
end DL

set_option Elab.async false
set_option linter.all false
set_option maxRecDepth 100000
set_option maxHeartbeats 2000000
/-! Targets of any kind; several names at once. -/
namespace DL
open PySem PySem.Spec PyProof.Rows L2
variable [Tbs]

/-- a target that stores into slots and own objects -/
def tTw (G : Gx) (k : D → M Unit) : TG := fun x σ H Q => ∃ (B F : Addr → Prop) (env : List Slot) (d : D) (Qd : List Slot → Prop), Rel G B F σ env H ∧ Rp G F H d x ∧ k d env (fun _ env' => Qd env') (fun _ _ => False) ∧
  ∀ env' σ' F' H', Qd env' → Stp B F H F' H' → Rel G B F' σ' env' H' → Q σ' H'
def setKs : List (D → M Unit) → List D → M Unit
  | [], [] => ret ()
  | k :: ks, d :: ds => bnd (k d) fun _ => setKs ks ds
  | _, _ => fail
def tTws (G : Gx) (ks : List (D → M Unit)) : TGs := fun xs σ H Q => ∃ (B F : Addr → Prop) (env : List Slot) (ds : List D) (Qd : List Slot → Prop), Rel G B F σ env H ∧ RpL G F H ds xs ∧ setKs ks ds env (fun _ env' => Qd env') (fun _ _ => False) ∧
  ∀ env' σ' F' H', Qd env' → Stp B F H F' H' → Rel G B F' σ' env' H' → Q σ' H'
def setTw (ks : List (D → M Unit)) (d : D) : M Unit := match d with
  | .tup ds => ask (ds.length = ks.length) (setKs ks ds)
  | .pr ds => ask (ds.length = ks.length) (setKs ks ds)
  | _ => fail
/-- own[b] = -/
def osetM (i : Nat) (mb : M D) (v : D) : M Unit := bnd (getO i) fun _ => bnd mb fun d => bnd (olist i) fun ds => match d with
  | .int k => match ixN ds.length k with
    | some j => putO i (.lst (ds.set j v))
    | none => fail
  | _ => fail
def RU : (Addr → Prop) → (Addr → Prop) → List Slot → L2.St → Hp → Unit → Unit → Prop := fun _ _ _ _ _ _ _ => True
section
variable {X : Cx} {C : Addr} {W : WX} {e b a : Expr} {es : List Expr} {md mb : M D} {pos p : Pos} {is : List Nat} {k : D → M Unit} {ks : List (D → M Unit)} {i : Nat}
theorem g_w {tg : Expr} (h : PG X tg (tTo (gx X C) is k)) : PG X tg (tTw (gx X C) k) := pgImp h fun v σ H Q ⟨B, F, env, d, Qd, rel, r, hm, hq⟩ => ⟨B, F, env, d, Qd, rel, r, hm, fun env' σ' q rl _ _ => hq env' σ' F H q Stp.refl rl⟩
theorem g_oset (ha : PE X a (tVar i)) (hb : PE X b (tD (gx X C) W mb))
    (hs : ∀ v, assign (.Subscript a b pos) X.env v = (do
      let ov ← holding [v] (eval a X.env)
      let iv ← holding [v, ov] (eval b X.env)
      standAt pos
      holding [v, ov, iv] (setItem ov iv v)
      release [v, ov, iv] []) := by intro _; rfl) : PG X (.Subscript a b pos) (tTw (gx X C) (osetM i mb)) :=
  pgImp (pg_sub ha hb set_list hs) fun x σ H Q ⟨B, F, env, d, Qd, rel, r, hm, hq⟩ => by
    have h : Pt (gx X C) W RU σ H (fun _ H' => Q σ H') (osetM i mb d) B F env := ⟨fun _ env' => Qd env', fun _ _ => False, rel, hm, fun _ env' _ F' H' q st rl _ => hq env' σ F' H' q st rl, fun _ _ _ _ _ _ z => z.elim⟩
    obtain ⟨q, _, e1, _, e3, h⟩ := Pt.getO h
    refine ⟨_, e1, (h.bind (Ra := RD (gx X C)) (as := [d]) (xs := [x]) ⟨x, [], rfl, r, rfl⟩).imp fun y H2 ⟨F2, env2, kd, p2, ⟨x', r', ex, rd, _⟩, r2⟩ => ?_⟩
    cases ex
    obtain ⟨q', ds, vs, e1', hv, rv, own, p3⟩ := p2.olist
    rw [e1] at e1'; cases e1'
    cases kd with
    | int k =>
      cases z : ixN ds.length k with
      | none => simp only [z] at p3; exact (Pt.no p3).elim
      | some j =>
        simp only [z] at p3
        refine ⟨q, vs, k, j, rfl, r2, hv, by rw [← rv.length]; exact z, ?_⟩
        have p3 : Pt (gx X C) W RU σ H2 (fun _ H' => Q σ H') (bnd (putO i (.lst (ds.set j d))) fun u => ret u) B F2 env2 := p3
        exact (p3.putL own hv rv (rv.set j rd)).pure (b := ()) trivial
    | _ => exact (Pt.no p3).elim
theorem gw_nil : PGs X [] (tTws (gx X C) []) := pgsImp pgs_nil fun v σ H Q ⟨B, F, env, ds, Qd, rel, r, hm, hq⟩ => by
  cases ds with
  | nil => exact ⟨r, hq env σ F H hm Stp.refl rel⟩
  | cons d ds => exact (show False from hm).elim
theorem gw_cons {tg : Expr} (h1 : PG X tg (tTw (gx X C) k)) (h2 : PGs X es (tTws (gx X C) ks)) (hs : (assignEach (tg :: es) X.env).map (·.2) = assign tg X.env :: (assignEach es X.env).map (·.2) := by rfl) : PGs X (tg :: es) (tTws (gx X C) (k :: ks)) :=
  pgsImp (pgs_cons h1 h2 hs) fun v σ H Q ⟨B, F, env, ds, Qd, rel, r, hm, hq⟩ => by
    cases ds with
    | nil => exact (show False from hm).elim
    | cons d ds =>
      obtain ⟨v0, rr, e0, rd, rs⟩ := r
      subst e0
      refine ⟨v0, rr, rfl, B, F, env, d, fun env' => setKs ks ds env' (fun _ env' => Qd env') (fun _ _ => False), rel, rd, hm, fun env' σ' F' H' q st rl => ?_⟩
      exact ⟨B, F', env', ds, Qd, rl, RpL.mono st ds rr rs, q, fun env2 σ2 F2 H2 q2 st2 rl2 => hq env2 σ2 F2 H2 q2 (st.trans st2) rl2⟩
theorem g_tupw {kk n : Nat} (hc : X.calm = true) (h : PGs X es (tTws (gx X C) ks)) (hl : ks.length = n) (hn : (assignEach es X.env).length = n := by rfl) (hst : (assignEach es X.env).findIdx? (·.1) = none := by rfl) :
    PG X (.Tuple es kk pos) (tTw (gx X C) (setTw ks)) := pgImp (pg_tup hc h hn hst) fun v σ H Q ⟨B, F, env, d, Qd, rel, r, hm, hq⟩ => by
  cases d with
  | tup ds =>
    obtain ⟨a, vs, e0, h1, h2⟩ := r
    obtain ⟨l, hm⟩ : ds.length = ks.length ∧ setKs ks ds env (fun _ env' => Qd env') (fun _ _ => False) := hm
    exact ⟨a, vs, e0, .inl h1.rd, by rw [← h2.length, l, hl], B, F, env, ds, Qd, rel, h2, hm, hq⟩
  | pr ds =>
    obtain ⟨a, vs, e0, h1, h2⟩ := r
    obtain ⟨l, hm⟩ : ds.length = ks.length ∧ setKs ks ds env (fun _ env' => Qd env') (fun _ _ => False) := hm
    exact ⟨a, vs, e0, .inl h1, by rw [← h2.length, l, hl], B, F, env, ds, Qd, rel, h2, hm, hq⟩
  | _ => exact (show False from hm).elim
/-- target = datum -/
def asgM (md : M D) (k : D → M Unit) : M Fl := fun env Q E => md env (fun d env1 => k d env1 (fun _ env2 => Q .nx env2) (fun _ _ => False)) E
theorem s_asgw {tg : Expr} (he : PE X e (tD (gx X C) W md)) (hg : PG X tg (tTw (gx X C) k)) (hs : swapsWithSole [tg] e pos.line X.env = pure false := by rfl) (hw : swappedStores [tg] e X.env = pure none := by rfl)
    (h1 : (assignEach [tg] X.env).map (·.2) = [assign tg X.env] := by rfl) : PS X (.Assign [tg] e pos) (tS (gx X C) W (asgM md k)) :=
  psImp (ps_asg he hg hs hw h1) fun Z σ H ⟨B, F, env, Qd, Ed, rel, hm, z1, z2, z3, z4, z5⟩ => by
    refine ⟨B, F, env, _, Ed, rel, hm, fun d env1 x F1 H1 hk st1 rel1 r => ?_, fun x env' cls d F' H' q st rl r => z5 x env' σ cls d F' H' q st rl r⟩
    exact ⟨B, F1, env1, d, fun env2 => Qd .nx env2, rel1, r, hk, fun env2 σ2 F2 H2 q2 st2 rl2 => z1 env2 σ2 F2 H2 q2 (st1.trans st2) rl2⟩
end

/-! ### several values, some of them new own objects -/
inductive Vl where
  | d (d : D) | o (o : O)
def RVs (G : Gx) (B F : Addr → Prop) (env : List Slot) (σ : L2.St) (H : Hp) : List Vl → List V → List Addr → Prop
  | [], vs, as => vs = [] ∧ as = []
  | .d d :: r, vs, as => ∃ v vr, vs = v :: vr ∧ Rp G F H d v ∧ RVs G B F env σ H r vr as
  | .o o :: r, vs, as => ∃ a vr ar, vs = .ref a :: vr ∧ as = a :: ar ∧ ¬ F a ∧ ¬ B a ∧ OwAt G F H a o ∧ (∀ i, ¬ OwnAt env σ i a) ∧ a ∉ ar ∧ RVs G B F env σ H r vr ar
def RVl (G : Gx) : (Addr → Prop) → (Addr → Prop) → List Slot → L2.St → Hp → List Vl → List V → Prop := fun B F env σ H vl vs => ∃ as, RVs G B F env σ H vl vs as
abbrev tVs (G : Gx) (W : WX) (m : M (List Vl)) : TA := Lift G W (RVl G) m
def vD (m : M D) (ms : M (List Vl)) : M (List Vl) := bnd m fun d => bnd ms fun vs => ret (.d d :: vs)
def vO (m : M O) (ms : M (List Vl)) : M (List Vl) := bnd m fun o => bnd ms fun vs => ret (.o o :: vs)
section
variable {X : Cx} {C : Addr} {W : WX} {e b a : Expr} {es : List Expr} {md : M D} {mo : M O} {ms : M (List Vl)} {pos p : Pos}
theorem v_nil : PA X [] (tVs (gx X C) W (ret [])) := paImp pa_nil fun σ H Q ⟨B, F, env, h⟩ => h.pure ⟨[], rfl, rfl⟩
theorem v_d (ha : PE X e (tD (gx X C) W md)) (hr : PA X es (tVs (gx X C) W ms)) (hs : starEach (e :: es) X.env = (false, eval e X.env) :: starEach es X.env := by rfl) : PA X (e :: es) (tVs (gx X C) W (vD md ms)) :=
  paImp (pa_cons ha hr hs) fun σ H Q h => (lift1 (Ra := RD (gx X C)) h).imp fun x H1 ⟨B, F, env, d, p, r⟩ =>
    (p.bind (Ra := RVl (gx X C)) (as := [d]) (xs := [x]) ⟨x, [], rfl, r, rfl⟩).imp fun xs H2 ⟨F2, env2, as, p2, ⟨x', r', e, rd, _⟩, ⟨ad, rs⟩⟩ => by
      cases e
      exact Pt.pure (c := Vl.d d :: as) p2 ⟨ad, x, xs, rfl, rd, rs⟩
theorem v_o (ha : PE X e (tO (gx X C) W mo)) (hr : PA X es (tVs (gx X C) W ms)) (hs : starEach (e :: es) X.env = (false, eval e X.env) :: starEach es X.env := by rfl) : PA X (e :: es) (tVs (gx X C) W (vO mo ms)) :=
  paImp (pa_cons ha hr hs) fun σ H Q h => (lift1 (Ra := RO (gx X C)) h).imp fun x H1 ⟨B, F, env, o, ⟨Qd, Ed, rel, hm, hq, he⟩, a, ea, nF, nB, ho, hn⟩ => by
    subst ea
    have rel2 : Rel (gx X C) (fun b => B b ∨ b = a) F σ env H1 := rel.more ⟨ho.some, ho.noTab⟩ hn
    refine ⟨fun b => B b ∨ b = a, F, env, fun vs env' => Qd (.o o :: vs) env', Ed, rel2, hm, fun vs env' xs F' H' q st rl ⟨as, rs⟩ => ?_, fun x env' cls d F' H' q st rl r => he x env' cls d F' H' q (st.less fun _ z => .inl z) (rl.less fun _ z => .inl z) r⟩
    have st' : Stp B F H1 F' H' := st.less fun _ z => .inl z
    have keep : H' a = H1 a := by
      cases e : H1 a with
      | none => exact absurd e ho.some
      | some u => exact st.hk a u (.inl (.inr rfl)) e fun ps z => ho.noTab ps (z ▸ e)
    have notin : ∀ {vl : List Vl} {xs : List V} {as : List Addr}, RVs (gx X C) (fun b => B b ∨ b = a) F' env' σ H' vl xs as → RVs (gx X C) B F' env' σ H' vl xs as ∧ a ∉ as := by
      intro vl
      induction vl with
      | nil => rintro xs as ⟨e1, e2⟩; subst e1 e2; exact ⟨⟨rfl, rfl⟩, by simp⟩
      | cons v vl ih =>
        cases v with
        | d d => rintro xs as ⟨v, vr, e1, r1, r2⟩; obtain ⟨z1, z2⟩ := ih r2; exact ⟨⟨v, vr, e1, r1, z1⟩, z2⟩
        | o o' =>
          rintro xs as ⟨b, vr, ar, e1, e2, f1, f2, f3, f4, f5, r2⟩
          obtain ⟨z1, z2⟩ := ih r2
          refine ⟨⟨b, vr, ar, e1, e2, f1, fun z => f2 (.inl z), f3, f4, f5, z1⟩, ?_⟩
          subst e2
          exact fun z => (List.mem_cons.mp z).elim (fun w => f2 (.inr w.symm)) z2
    obtain ⟨rs', na⟩ := notin rs
    refine hq (.o o :: vs) env' (.ref a :: xs) F' H' q st' (rl.less fun _ z => .inl z) ⟨a :: as, a, xs, as, rfl, rfl, fun z => (st.fn a z).elim nF fun n => n (.inr rfl), nB, OwAt.mono st' keep ho, fun i w => (rl.ownSome w).2.2 (.inr rfl), na, rs'⟩
def setV (i : Nat) : Vl → M Unit
  | .d d => setI i d
  | .o o => setO i o
def setVs : List Nat → List Vl → M Unit
  | [], [] => ret ()
  | i :: is, v :: vs => bnd (setV i v) fun _ => setVs is vs
  | _, _ => fail
def storeV : L2.St → List Nat → List V → L2.St
  | σ, i :: is, v :: vs => storeV (σ.set i (some v)) is vs
  | σ, _, _ => σ
theorem setO_spec {i : Nat} {o : O} {env : List Slot} {Q : Unit → List Slot → Prop} {E : Exn → List Slot → Prop} (h : setO i o env Q E) : Q () (env.set i (.ow o)) := by
  unfold setO at h
  cases q : env[i]? with
  | none => rw [q] at h; exact h.elim
  | some s =>
    rw [q] at h
    cases s with
    | io _ _ => exact h.elim
    | _ => exact h
theorem RVs.move {G : Gx} {B F : Addr → Prop} {env env' : List Slot} {σ σ' : L2.St} {H : Hp} : ∀ {vl : List Vl} {vs : List V} {as : List Addr}, (∀ i a, a ∈ as → OwnAt env' σ' i a → ∃ j, OwnAt env σ j a) → RVs G B F env σ H vl vs as → RVs G B F env' σ' H vl vs as
  | [], _, _, _, h => h
  | .d d :: r, _, _, f, ⟨v, vr, e, r1, r2⟩ => ⟨v, vr, e, r1, RVs.move f r2⟩
  | .o o :: r, _, _, f, ⟨a, vr, ar, e1, e2, f1, f2, f3, f4, f5, r2⟩ => by
    subst e2
    exact ⟨a, vr, ar, e1, rfl, f1, f2, f3, fun i w => (f i a (by simp) w).elim fun j z => f4 j z, f5, RVs.move (fun i b hb => f i b (List.mem_cons_of_mem _ hb)) r2⟩
theorem setVs_rel {G : Gx} {B F : Addr → Prop} {H : Hp} : ∀ {is : List Nat} {vl : List Vl} {vs : List V} {as : List Addr} {env : List Slot} {σ : L2.St} {Q : Unit → List Slot → Prop} {E : Exn → List Slot → Prop}, Rel G B F σ env H → RVs G B F env σ H vl vs as → setVs is vl env Q E →
    ∃ env', Q () env' ∧ Rel G B F (storeV σ is vs) env' H ∧ is.length = vs.length
  | [], [], _, _, env, σ, Q, E, rel, ⟨e, _⟩, h => by subst e; exact ⟨env, h, rel, rfl⟩
  | [], _ :: _, _, _, _, _, _, _, _, _, h => (show False from h).elim
  | _ :: _, [], _, _, _, _, _, _, _, _, h => (show False from h).elim
  | i :: is, .d d :: vl, _, as, env, σ, Q, E, rel, ⟨v, vr, e, r1, r2⟩, h => by
    subst e
    have h : setI i d env (fun _ env' => setVs is vl env' Q E) E := h
    have rel' := rel.setI (i := i) r1
    obtain ⟨env', q, rl, l⟩ := setVs_rel rel' (r2.move fun j a _ w => (ownAt_set rel.len w).elim (fun z => by cases z.2.1) fun z => ⟨j, z.2⟩) (setI_spec h)
    exact ⟨env', q, rl, by rw [List.length_cons, List.length_cons, l]⟩
  | i :: is, .o o :: vl, _, _, env, σ, Q, E, rel, ⟨a, vr, ar, e1, e2, f1, f2, f3, f4, f5, r2⟩, h => by
    subst e1 e2
    have h : setO i o env (fun _ env' => setVs is vl env' Q E) E := h
    have rel' := rel.setO (i := i) f1 f2 f3 f4
    obtain ⟨env', q, rl, l⟩ := setVs_rel rel' (r2.move fun j b hb w => (ownAt_set rel.len w).elim (fun z => by cases Option.some.inj z.2.2; exact (f5 hb).elim) fun z => ⟨j, z.2⟩) (setO_spec h)
    exact ⟨env', q, rl, by rw [List.length_cons, List.length_cons, l]⟩
def parM (is : List Nat) (ms : M (List Vl)) : M Fl := bnd ms fun vs => bnd (setVs is vs) fun _ => ret .nx
theorem par_reads {is : List Nat} {Z : Ends} {σ : L2.St} {H : Hp} (h : tS (gx X C) W (parM is ms) Z σ H) : tVs (gx X C) W ms σ H fun vs H1 => is.length = vs.length ∧ Z.nx (storeV σ is vs) H1 := by
  obtain ⟨B, F, env, h⟩ := h
  have h : Ps (gx X C) W (bnd ms fun vs => bnd (setVs is vs) fun _ => ret .nx) Z σ H B F env := h
  refine (h.bind (Ra := RVl (gx X C)) (as := []) (xs := [])).imp fun y H1 ⟨F1, env1, vl, ⟨Qd, Ed, rel, hm, h1, h2, h3, h4, h5⟩, as, rs⟩ => ?_
  obtain ⟨env', q, rl, l⟩ := setVs_rel rel rs (show setVs is vl env1 (fun _ env' => Qd .nx env') Ed from hm)
  exact ⟨l, h1 env' _ F1 H1 q Stp.refl rl⟩
theorem s_par2 {i j : Nat} {x y : Str} {px py pt : Pos} {kt k2 pt2} (hc : X.calm = true) (hN : X.N.Nodup) (hi : X.N[i]? = some x) (hj : X.N[j]? = some y) (hij : i ≠ j)
    (hx : X.env.scope.names.lookup x = some .local) (hy : X.env.scope.names.lookup y = some .local) (ha : PA X [a, b] (tVs (gx X C) W ms))
    (hw : swappedStores [.Tuple [.Name x px, .Name y py] kt pt] (.Tuple [a, b] k2 pt2) X.env = pure (some [x, y]) := by rfl)
    (hs : swapsWithSole [.Tuple [.Name x px, .Name y py] kt pt] (.Tuple [a, b] k2 pt2) pos.line X.env = pure false := by rfl) :
    PS X (.Assign [.Tuple [.Name x px, .Name y py] kt pt] (.Tuple [a, b] k2 pt2) pos) (tS (gx X C) W (parM [i, j] ms)) :=
  psImp (ps_par hc hN hi hj hij hx hy ha hw hs) fun Z σ H h => (par_reads h).imp fun vs H1 ⟨l, q⟩ => by
    match vs, l, q with
    | [v, w], _, q => exact ⟨v, w, rfl, q⟩
    | [], l, _ => cases l
    | [_], l, _ => cases l
    | _ :: _ :: _ :: _, l, _ => simp at l
theorem s_par3 {i j l : Nat} {x y z : Str} {c : Expr} {px py pz pt : Pos} {kt k2 pt2} (hc : X.calm = true) (hN : X.N.Nodup) (hi : X.N[i]? = some x) (hj : X.N[j]? = some y) (hl : X.N[l]? = some z) (hij : i ≠ j) (hil : i ≠ l) (hjl : j ≠ l)
    (hx : X.env.scope.names.lookup x = some .local) (hy : X.env.scope.names.lookup y = some .local) (hz : X.env.scope.names.lookup z = some .local) (ha : PA X [a, b, c] (tVs (gx X C) W ms))
    (hw : swappedStores [.Tuple [.Name x px, .Name y py, .Name z pz] kt pt] (.Tuple [a, b, c] k2 pt2) X.env = pure (some [x, y, z]) := by rfl)
    (hs : swapsWithSole [.Tuple [.Name x px, .Name y py, .Name z pz] kt pt] (.Tuple [a, b, c] k2 pt2) pos.line X.env = pure false := by rfl) :
    PS X (.Assign [.Tuple [.Name x px, .Name y py, .Name z pz] kt pt] (.Tuple [a, b, c] k2 pt2) pos) (tS (gx X C) W (parM [i, j, l] ms)) :=
  psImp (ps_par3 hc hN hi hj hl hij hil hjl hx hy hz ha hw hs) fun Z σ H h => (par_reads h).imp fun vs H1 ⟨l, q⟩ => by
    match vs, l, q with
    | [u, v, w], _, q => exact ⟨u, v, w, rfl, q⟩
    | [], l, _ => cases l
    | [_], l, _ => cases l
    | [_, _], l, _ => cases l
    | _ :: _ :: _ :: _ :: _, l, _ => simp at l
end
end DL

set_option Elab.async false
set_option linter.all false
set_option maxRecDepth 100000
set_option maxHeartbeats 2000000
/-! Own sets; t.index; isinstance. -/
namespace DL
open PySem PySem.Spec PyProof.Rows L2
variable [Tbs]

def asS : O → M ((Int → Bool) × Nat)
  | .set S n => ret (S, n)
  | _ => fail
def oset (i : Nat) : M ((Int → Bool) × Nat) := bnd (getO i) asS
def addS (S : Int → Bool) (k : Int) : Int → Bool := fun j => S j || decide (j = k)
section
variable {G : Gx} {W : WX} {B F : Addr → Prop} {σ : L2.St} {H : Hp} {env : List Slot} {α β γ δ : Type}
variable {R : (Addr → Prop) → (Addr → Prop) → List Slot → L2.St → Hp → γ → δ → Prop} {Q : δ → Hp → Prop} {i : Nat} {a : Addr} {o o' : O}
theorem Pt.oset {k : (Int → Bool) × Nat → M γ} (h : Pt G W R σ H Q (bnd (DL.oset i) k) B F env) : ∃ a S n, σ[i]? = some (some (.ref a)) ∧ H a = some (SetO G.w a S n) ∧ OwnAt env σ i a ∧ Pt G W R σ H Q (k (S, n)) B F env := by
  have h : Pt G W R σ H Q (bnd (DL.getO i) fun o => bnd (asS o) k) B F env := h
  obtain ⟨a, o, e1, e2, e3, p⟩ := h.getO
  cases o with
  | set S n => exact ⟨a, S, n, e1, e2, e3, p⟩
  | _ => exact (Pt.unknown p).elim
end
section
variable {X : Cx} {C : Addr} {W : WX} {a b c e : Expr} {es : List Expr} {ma mb mc : M D} {pos apos cpos p : Pos} {i : Nat}
/-- set() -/
theorem o_set0 (hg : Gl X "set") (hm : X.mg "set" = none) : PE X (.Call (.Name "set" p) [] [] pos) (tO (gx X C) W (ret (.set (fun _ => false) 0))) :=
  peImp (pe_callTy0 cr_set0 hg hm boot_set) fun σ H Q ⟨B, F, env, Qd, Ed, rel, hm, hq, he⟩ => by
    refine ⟨rfl, fun q hn => ?_⟩
    exact hq _ env _ F _ hm (stp_new hn) (rel.new hn) ⟨q, rfl, rel.notF hn, rel.notB hn, upd_same, fun i w => (rel.ownSome w).1 hn⟩
/-- own.add(k) -/
def oaddM (i : Nat) (mb : M D) : M D := bnd (oset i) fun _ => bnd mb fun d => bnd (oset i) fun s => match d with
  | .int k => ask (s.2 + 1 < scanBound) (bnd (putO i (.set (addS s.1 k) (if s.1 k = true then s.2 else s.2 + 1))) fun _ => ret .non)
  | _ => fail
theorem e_oadd (ha : PE X a (tVar i)) (hb : PE X b (tD (gx X C) W mb)) (hbase : attributeBase a "add" X.env (eval a X.env) = eval a X.env := by rfl)
    (hfew : ((backTo cpos (starEach [b] X.env)).all (fun x => !x.1) && (backToKw cpos (keywordEach [] X.env)).all (fun x => x.1.isSome)
      && decide ([b].length + ([] : List Keyword).length + (if ([] : List Keyword).isEmpty then 0 else 1) < 30)) = true := by rfl)
    (hline : (apos.endLine == cpos.line) = true := by rfl) (hs : starEach [b] X.env = (false, eval b X.env) :: starEach [] X.env := by rfl) (hpl : (backTo cpos (starEach [] X.env)).any (·.1) = false := by rfl) :
    PE X (.Call (.Attribute a "add" apos) [b] [] cpos) (tD (gx X C) W (oaddM i mb)) :=
  peImp (pe_sadd ha (pa_cons hb pa_nil hs) hbase hfew hline hs hpl) fun σ H Q ⟨B, F, env, h⟩ => by
    obtain ⟨q, S0, n0, e1, hv0, _, h⟩ := Pt.oset h
    refine ⟨_, e1, ⟨q, S0, n0, rfl, hv0⟩, (h.bind (Ra := RD (gx X C)) (as := []) (xs := []) rfl).imp fun y H2 ⟨F2, env2, d, p2, _, r2⟩ => ?_⟩
    obtain ⟨q', S, n, e1', hv, own, p3⟩ := p2.oset
    rw [e1] at e1'; cases e1'
    cases d with
    | int k =>
      obtain ⟨sz, p3⟩ := Pt.asked p3
      refine ⟨q, k, S, n, rfl, by rw [show y = V.int k from r2], hv, sz, ?_⟩
      exact (Pt.putO (o := .set S n) p3 own hv upd_same).pure (b := .non) rfl
    | _ => exact (Pt.no p3).elim
/-- k in own -/
def osinM (neg : Bool) (ma : M D) (i : Nat) : M D := bnd (getO i) fun _ => bnd ma fun x => bnd (oset i) fun s => match x with
  | .int k => ret (.bl (if neg then !s.1 k else s.1 k))
  | _ => fail
theorem osin_reads {neg : Bool} {σ : L2.St} {H : Hp} {Q : V → Hp → Prop} (h : Lift (gx X C) W (RD (gx X C)) (osinM neg ma i) σ H Q) : tD (gx X C) W ma σ H fun x H1 => tVar i σ H1 fun y H2 => ∃ k a S n, x = V.int k ∧ y = V.ref a ∧ H2 a = some (SetO X.w a S n) ∧ Q (.bl (if neg then !S k else S k)) H2 := by
  obtain ⟨B, F, env, h⟩ := h
  obtain ⟨q, _, e1, _, e3, h⟩ := Pt.getO h
  refine (h.bind (Ra := RD (gx X C)) (as := []) (xs := []) rfl).imp fun y H2 ⟨F2, env2, d, p2, _, r2⟩ => ?_
  obtain ⟨q', S, n, e1', hv, own, p3⟩ := p2.oset
  refine ⟨_, e1', ?_⟩
  cases d with
  | int k => exact ⟨k, q', S, n, r2, rfl, hv, Pt.pure p3 (b := .bl _) rfl⟩
  | _ => exact (Pt.no p3).elim
theorem e_osin (ha : PE X a (tD (gx X C) W ma)) (hb : PE X b (tVar i)) (hm : behindInMarks .In b = false) : PE X (.Compare a [.In] [b] pos) (tD (gx X C) W (osinM false ma i)) :=
  peImp (pe_cmpR or_sin ha hb hm) fun σ H Q h => osin_reads h
theorem e_osnin (ha : PE X a (tD (gx X C) W ma)) (hb : PE X b (tVar i)) (hm : behindInMarks .NotIn b = false) : PE X (.Compare a [.NotIn] [b] pos) (tD (gx X C) W (osinM true ma i)) :=
  peImp (pe_cmpR or_snotin ha hb hm) fun σ H Q h => osin_reads h
theorem t_osin (ha : PE X a (tD (gx X C) W ma)) (hb : PE X b (tVar i)) (hm : behindInMarks .In b = false) : PT X (.Compare a [.In] [b] pos) (tBl (gx X C) W (bnd (osinM false ma i) asB)) :=
  ptImp (pt_cmpR or_sin ha hb hm) fun σ H Q h => osin_reads (bnd_asB h)
theorem t_osnin (ha : PE X a (tD (gx X C) W ma)) (hb : PE X b (tVar i)) (hm : behindInMarks .NotIn b = false) : PT X (.Compare a [.NotIn] [b] pos) (tBl (gx X C) W (bnd (osinM true ma i) asB)) :=
  ptImp (pt_cmpR or_snotin ha hb hm) fun σ H Q h => osin_reads (bnd_asB h)

/-! ### t.index(x) -/
def asT : D → M (List D)
  | .tup ds => ret ds
  | _ => fail
def idxL (ds : List D) (b : D) : M D := ask (flatD b = true ∧ ds.all flatD = true ∧ (ds.any fun d => eqv d b) = true) (ret (.int (ds.findIdx fun d => eqv d b : Nat)))
def tidxM (ma mb : M D) : M D := bnd ma fun x => bnd (asT x) fun ds => bnd mb fun y => idxL ds y
theorem rp_at {G : Gx} {F : Addr → Prop} {H : Hp} {ds : List D} {vs : List V} (r : RpL G F H ds vs) {m : Nat} {z : V} (h : vs[m]? = some z) : ∃ d, ds[m]? = some d ∧ Rp G F H d z := by
  have l : m < ds.length := by rw [r.length]; exact (List.getElem?_eq_some_iff.mp h).1
  obtain ⟨v, hv, rv⟩ := r.get (List.getElem?_eq_getElem l)
  rw [h] at hv
  cases hv
  exact ⟨_, List.getElem?_eq_getElem l, rv⟩
theorem e_tidx {o e : Expr} (ho : PE X o (tD (gx X C) W ma)) (ha : PE X e (tD (gx X C) W mb))
    (hbase : attributeBase o "index" X.env (eval o X.env) = eval o X.env := by rfl)
    (hfew : ((backTo cpos (starEach [e] X.env)).all (fun x => !x.1) && (backToKw cpos (keywordEach [] X.env)).all (fun x => x.1.isSome)
      && decide ([e].length + ([] : List Keyword).length + (if ([] : List Keyword).isEmpty then 0 else 1) < 30)) = true := by rfl)
    (hline : (apos.endLine == cpos.line) = true := by rfl) (hs : starEach [e] X.env = (false, eval e X.env) :: starEach [] X.env := by rfl) (hpl : (backTo cpos (starEach [] X.env)).any (·.1) = false := by rfl) :
    PE X (.Call (.Attribute o "index" apos) [e] [] cpos) (tD (gx X C) W (tidxM ma mb)) :=
  peImp (DLt.pf_index ho (pa_cons ha pa_nil hs) hbase hfew hline hs hpl) fun σ H Q h => (lift1 (Ra := RD (gx X C)) h).imp fun x H1 ⟨B, F, env, d, p, r⟩ => by
    cases d with
    | tup ds =>
      obtain ⟨q, vs, ex, h1, h2⟩ := id r
      obtain ⟨hF, ob, e1, dn⟩ := h1
      have p : Pt (gx X C) W (RD (gx X C)) σ H1 Q (bnd mb fun y => idxL ds y) B F env := p
      refine ⟨q, ob, vs, ex, e1, dn, (p.bind (Ra := RD (gx X C)) (as := [.tup ds]) (xs := [x]) ⟨x, [], rfl, r, rfl⟩).imp fun y H2 ⟨F2, env2, yd, p2, ⟨x', r', e', rd, _⟩, ry⟩ => ?_⟩
      cases e'
      obtain ⟨⟨fy, fds, hit⟩, p2⟩ := p2.asked
      obtain ⟨q2, vs2, ex2, h12, h22⟩ := id rd
      have eq2 : q2 = q := by rw [ex] at ex2; cases ex2; rfl
      subst eq2
      have lt : ds.findIdx (fun d => eqv d yd) < ds.length := List.findIdx_lt_length_of_exists (by simpa using hit)
      obtain ⟨w, hw, rw'⟩ := h22.get (List.getElem?_eq_getElem lt)
      have fl : ∀ d ∈ ds, flatD d = true := by simpa using fds
      refine ⟨y, ds.findIdx (fun d => eqv d yd), w, vs2, rfl, h12.rd, flat_of ry fy, flats_of h22 fds, hw, ?_, fun m z hm hz => ?_, p2.pure (b := .int _) rfl⟩
      · rw [eqv_flat rw' ry (fl _ (List.getElem_mem lt)) fy]
        exact List.findIdx_getElem (w := lt)
      · obtain ⟨d, hd, rd'⟩ := rp_at h22 hz
        obtain ⟨hm', hd'⟩ := List.getElem?_eq_some_iff.mp hd
        rw [eqv_flat rd' ry (fl _ (hd' ▸ List.getElem_mem hm')) fy]
        have := List.not_of_lt_findIdx hm
        rw [hd'] at this
        simpa using this
    | _ => exact (Pt.unknown p).elim
end
end DL

set_option Elab.async false
set_option linter.all false
set_option maxRecDepth 100000
set_option maxHeartbeats 2000000
/-! Instances: making, fields, methods; isinstance. -/
namespace DL
open PySem PySem.Spec PyProof.Rows L2
variable [Tbs]

/-! ### isinstance -/
inductive CT where
  | int | bool | tuple | str | list | bytes | hall
inductive TK where
  | non | bl | int | str | byt | tup | lst | dict | hall
def CT.u (C : Addr) : CT → Value
  | .int => .type "int" | .bool => .type "bool" | .tuple => .type "tuple" | .str => .type "str" | .list => .type "list" | .bytes => .type "bytes" | .hall => .ref C
def CT.v (C : Addr) : CT → V
  | .int => .ty "int" | .bool => .ty "bool" | .tuple => .ty "tuple" | .str => .ty "str" | .list => .ty "list" | .bytes => .ty "bytes" | .hall => .ref C
def TK.u (C : Addr) : TK → Value
  | .non => .type "NoneType" | .bl => .type "bool" | .int => .type "int" | .str => .type "str" | .byt => .type "bytes" | .tup => .type "tuple" | .lst => .type "list" | .dict => .type "dict" | .hall => .ref C
def CT.is : CT → TK → Bool
  | .int, .int => true | .int, .bl => true | .bool, .bl => true | .tuple, .tup => true | .str, .str => true | .list, .lst => true | .bytes, .byt => true | .hall, .hall => true
  | _, _ => false
def D.kind : D → Option TK
  | .non => some .non | .bl _ => some .bl | .int _ => some .int | .str _ => some .str | .byt _ => some .byt | .tup _ => some .tup | .pr _ => some .tup | .lst _ => some .lst | .hall _ _ => some .hall | .scr _ => none | .emp => some .dict | .exn _ _ _ => none
/-- what the class Hall is, in the written part -/
structure HallK (K : PySem.W.Frag) (C : Addr) : Prop where
  cls : Cls K C
  ha : PySem.W.findIn K (.ref C) "__class__" = some (some (.builtin "object.__class__"))
  hn : PySem.W.specialIn K (.builtin "object.__class__") "__get__" = some (some (.builtin "getset_descriptor.__get__"))
  htk : PySem.W.takesIn K (.builtin "object.__class__") = some true
  hm : PySem.W.mroIn K C (.type "object") = some true
  one : ∀ c t, PySem.W.kitOne K (TK.u C t) (CT.u C c) = some (CT.is c t)
  ng : NoAttr K C "guests"
  ns : NoAttr K C "spare"
theorem CT.clsV {C : Addr} (c : CT) : ClsV (c.v C) (c.u C) := by
  cases c
  case hall => exact .own C
  all_goals exact .ty _
def isiD (c : CT) (d : D) : M D := match d.kind with
  | some t => ret (.bl (c.is t))
  | none => fail
section
variable {X : Cx} {C : Addr} {W : WX} {a b c e : Expr} {es : List Expr} {ma mb mc md : M D} {pos apos cpos p : Pos} {i : Nat}
theorem tyX_of {F : Addr → Prop} {H : Hp} {d : D} {v : V} {t : TK} (hk : HallK X.K C) (r : Rp (gx X C) F H d v) (h : d.kind = some t) : TyX X.K H v (t.u C) := by
  cases d with
  | non => cases h; cases (show _ = _ from r); exact .base .non
  | bl _ => cases h; cases (show _ = _ from r); exact .base (.bl _)
  | int _ => cases h; cases (show _ = _ from r); exact .base (.int _)
  | str _ => cases h; cases (show _ = _ from r); exact .base (.str _)
  | byt _ => cases h; cases (show _ = _ from r); exact .byt _
  | tup _ => cases h; obtain ⟨q, vs, e, ⟨_, ob, h1, _⟩, _⟩ := r; subst e; exact .fTuple h1
  | pr _ =>
    cases h
    obtain ⟨q, vs, e, h1, _⟩ := r
    subst e
    rcases h1 with h1 | ⟨ob, h1⟩
    · exact .base (.tup h1)
    · exact .fTuple h1
  | lst _ => cases h; obtain ⟨q, vs, e, _, h1, _⟩ := r; subst e; exact .base (.lst h1)
  | hall g s => cases h; obtain ⟨q, dx, e, _, h1⟩ := r; subst e; exact .base (.ins h1 hk.cls hk.ha hk.hn hk.htk hk.hm)
  | scr _ => cases h
  | emp => cases h; obtain ⟨q, e, _, h1⟩ := r; subst e; exact .base (.dK h1)
  | exn _ _ _ => cases h
theorem e_isi {ct : CT} (hk : HallK X.K C) (hg : Gl X "isinstance") (hm : X.mg "isinstance" = none) (ha : PE X a (tD (gx X C) W ma)) (hc : PE X c (tC (ct.v C)))
    (h1 : starEach [a, c] X.env = (false, eval a X.env) :: starEach [c] X.env := by rfl) (h2 : starEach [c] X.env = (false, eval c X.env) :: starEach [] X.env := by rfl) (hpl : (backTo pos (starEach [c] X.env)).any (·.1) = false := by rfl) :
    PE X (.Call (.Name "isinstance" p) [a, c] [] pos) (tD (gx X C) W (bnd ma (isiD ct))) :=
  peImp (pe_callB call_isi hg hm boot_isinstance (pa_cons ha (pa_cons hc pa_nil h2) h1) (by decide) (by decide) h1 hpl) fun σ H Q h => (lift1 (Ra := RD (gx X C)) h).imp fun x H1 ⟨B, F, env, d, q, r⟩ => by
    cases k : d.kind with
    | none => simp only [isiD, k] at q; exact (Pt.no q).elim
    | some t =>
      simp only [isiD, k] at q
      exact ⟨x, ct.v C, t.u C, ct.u C, ct.is t, rfl, ct.clsV, tyX_of hk r k, hk.one ct t, q.pure (b := .bl _) rfl⟩
theorem t_isi {ct : CT} (hk : HallK X.K C) (hg : Gl X "isinstance") (hm : X.mg "isinstance" = none) (ha : PE X a (tD (gx X C) W ma)) (hc : PE X c (tC (ct.v C)))
    (he : ∀ whole, isTrue (.Call (.Name "isinstance" p) [a, c] [] pos) X.env whole = (do let v ← whole; standAt (Expr.Call (.Name "isinstance" p) [a, c] [] pos).pos; holding [v] (truthy v)) := by intro _; rfl)
    (h1 : starEach [a, c] X.env = (false, eval a X.env) :: starEach [c] X.env := by rfl) (h2 : starEach [c] X.env = (false, eval c X.env) :: starEach [] X.env := by rfl) (hpl : (backTo pos (starEach [c] X.env)).any (·.1) = false := by rfl) :
    PT X (.Call (.Name "isinstance" p) [a, c] [] pos) (tBl (gx X C) W (bnd (bnd ma (isiD ct)) truD)) := t_tru (e_isi hk hg hm ha hc h1 h2 hpl) he

/-! ### a Hall's fields, methods -/
def hgM : D → M D
  | .hall g _ => ret (.int g)
  | _ => fail
def hsM : D → M D
  | .hall _ s => ret (.int s)
  | _ => fail
theorem e_hg (hk : HallK X.K C) (he : PE X e (tD (gx X C) W md)) (hb : attributeBase e "guests" X.env (eval e X.env) = eval e X.env := by rfl) : PE X (.Attribute e "guests" pos) (tD (gx X C) W (bnd md hgM)) :=
  peImp (pe_fld he hb) fun σ H Q h => (lift1 (Ra := RD (gx X C)) h).imp fun x H1 ⟨B, F, env, d, q, r⟩ => by
    cases d with
    | hall g s => obtain ⟨a, dx, ex, hF, h1⟩ := r; exact ⟨a, C, dx, _, .int g, ex, h1, hk.cls, hk.ng, rfl, Pt.pure (c := D.int g) q rfl⟩
    | _ => exact (Pt.no q).elim
theorem e_hs (hk : HallK X.K C) (he : PE X e (tD (gx X C) W md)) (hb : attributeBase e "spare" X.env (eval e X.env) = eval e X.env := by rfl) : PE X (.Attribute e "spare" pos) (tD (gx X C) W (bnd md hsM)) :=
  peImp (pe_fld he hb) fun σ H Q h => (lift1 (Ra := RD (gx X C)) h).imp fun x H1 ⟨B, F, env, d, q, r⟩ => by
    cases d with
    | hall g s => obtain ⟨a, dx, ex, hF, h1⟩ := r; exact ⟨a, C, dx, _, .int s, ex, h1, hk.cls, hk.ns, rfl, Pt.pure (c := D.int s) q rfl⟩
    | _ => exact (Pt.no q).elim
/-- hall.m() -/
def hcallM (df : DF) : D → M Res
  | .hall g s => callD df [.hall g s]
  | _ => fail
variable {k n : Nat} {f : Addr} {fd : FuncData} {ps ks : List Str} {df : DF} {x m : Str} {kws : List Keyword} {ms mk : M (List D)} {o : Expr}
theorem c_hm0 {pl : Sem Bool} (hk : HallK X.K C) (Fn : FnG X.prog X.w X.K X.mg X.base k f fd ps (spD (gx X C) 1 df)) (hr : Room k X.A) (hG : X.A.guards = some []) (tk : L2N.Takes X W) (hm : Meth X.K C m f) (hb : Binds X.K fd ps []) (hn : 1 = ps.length) (he : PE X o (tD (gx X C) W md))
    (hne : ([("guests", ()), ("spare", ())] : List (Str × Unit)).lookup m = none)
    (ht : eval (.Call (.Attribute o m apos) [] [] pos) X.env = (do
      let ov ← eval o X.env
      standAt apos.atName
      let (f, first) ← holding [ov] (getMethod ov m pl)
      callWith pos f first (backTo pos (starEach [] X.env)) (backToKw pos (keywordEach [] X.env))) := by rfl) :
    PE X (.Call (.Attribute o m apos) [] [] pos) (tRs (gx X C) W (bnd md (hcallM df))) := ⟨fun pins s σ H Q I h => by
  refine PySem.W.methodCall_KW (pl := pl) (thn (he.run pins s σ H _ I (lift1 (Ra := RD (gx X C)) h)) fun u s1 ⟨x, H1, I1, rx, B, F, env, d, q, r⟩ => ?_) ht
  cases d with
  | hall g s =>
    obtain ⟨a, dx, ex, hF, h1⟩ := id r
    subst ex
    obtain rfl : u = Value.ref a := rx
    have noatt : ([("guests", V.int g), ("spare", V.int s)] : List (Str × V)).lookup m = none := by
      simp only [List.lookup] at hne ⊢
      split <;> rename_i e1 <;> simp only [e1] at hne
      · cases hne
      · split <;> rename_i e2 <;> simp only [e2] at hne
        · cases hne
        · rfl
    refine getmeth_ok I1 h1 hk.cls hm noatt ?_
    have hb' := hb s1 [.ref a] I1.kIn (by rw [List.append_nil]; exact hn)
    rw [List.append_nil] at hb'
    refine PySem.W.callWith_K0 (first := [.ref a]) I1.kIn hm.kp (wpAny_call (run_g (vs := [.ref a]) Fn hr hG tk I1 hb' (.cons rfl .nil) (Pt.callD q ⟨_, [], rfl, r, rfl⟩ rfl)))
  | _ => exact (Pt.no q).elim⟩

/-! ### own instances: fields -/
def putFD (f : Str) (v : D) : List (Str × D) → List (Str × D)
  | [] => [(f, v)]
  | (g, x) :: r => if g = f then (g, v) :: r else (g, x) :: putFD f v r
theorem FsR.put {G : Gx} {F : Addr → Prop} {H : Hp} {f : Str} {d : D} {v : V} (rv : Rp G F H d v) : ∀ {fs : List (Str × D)} {l : List (Str × V)}, FsR G F H fs l → FsR G F H (putFD f d fs) (putF f v l)
  | [], _, h => by cases (show _ = _ from h); exact ⟨v, [], rfl, rv, rfl⟩
  | (g, x) :: r, _, ⟨w, l', e, h1, h2⟩ => by
    subst e
    show FsR G F H (if g = f then (g, d) :: r else (g, x) :: putFD f d r) (if g = f then (g, v) :: l' else (g, w) :: putF f v l')
    by_cases z : g = f
    · rw [if_pos z, if_pos z]; exact ⟨v, l', rfl, rv, h2⟩
    · rw [if_neg z, if_neg z]; exact ⟨w, _, rfl, h1, FsR.put rv h2⟩
theorem FsR.len {G : Gx} {F : Addr → Prop} {H : Hp} : ∀ {fs : List (Str × D)} {l : List (Str × V)}, FsR G F H fs l → fs.length = l.length
  | [], _, h => by cases (show _ = _ from h); rfl
  | (g, x) :: r, _, ⟨w, l', e, h1, h2⟩ => by subst e; rw [List.length_cons, List.length_cons, FsR.len h2]
theorem FsR.look {G : Gx} {F : Addr → Prop} {H : Hp} {f : Str} : ∀ {fs : List (Str × D)} {l : List (Str × V)} {d : D}, FsR G F H fs l → fs.lookup f = some d → ∃ v, l.lookup f = some v ∧ Rp G F H d v
  | [], _, _, h, e => by cases e
  | (g, x) :: r, _, d, ⟨w, l', ee, h1, h2⟩, e => by
    subst ee
    simp only [List.lookup] at e ⊢
    cases z : f == g with
    | true => simp only [z] at e ⊢; cases e; exact ⟨w, rfl, h1⟩
    | false => simp only [z] at e ⊢; exact FsR.look h2 e
def asI (C : Addr) : O → M (List (Str × D))
  | .ins cl fs => ask (cl = C) (ret fs)
  | _ => fail
def oins (C : Addr) (i : Nat) : M (List (Str × D)) := bnd (getO i) (asI C)
theorem Pt.oins {G : Gx} {B F : Addr → Prop} {σ : L2.St} {H : Hp} {env : List Slot} {γ δ : Type} {R : (Addr → Prop) → (Addr → Prop) → List Slot → L2.St → Hp → γ → δ → Prop} {Q : δ → Hp → Prop} {k : List (Str × D) → M γ} {C : Addr}
    (h : Pt G W R σ H Q (bnd (DL.oins C i) k) B F env) : ∃ a dx fs l, σ[i]? = some (some (.ref a)) ∧ H a = some (.ins C dx l) ∧ FsR G F H fs l ∧ OwnAt env σ i a ∧ Pt G W R σ H Q (k fs) B F env := by
  have h : Pt G W R σ H Q (bnd (DL.getO i) fun o => bnd (asI C o) k) B F env := h
  obtain ⟨a, o, e1, e2, e3, p⟩ := h.getO
  cases o with
  | ins cl fs =>
    have p : Pt G W R σ H Q (ask (cl = C) (k fs)) B F env := p
    obtain ⟨ec, p'⟩ := p.asked
    subst ec
    obtain ⟨dx, l, h1, h2⟩ := e2
    exact ⟨a, dx, fs, l, e1, h1, h2, e3, p'⟩
  | _ => exact (Pt.unknown p).elim
/-- own.f = value -/
def fsetM (C : Addr) (i : Nat) (f : Str) (md : M D) : M Fl := bnd md fun d => bnd (oins C i) fun fs => ask (fs.length < 1000) (bnd (putO i (.ins C (putFD f d fs))) fun _ => ret .nx)
theorem s_fset {C' : Addr} {f : Str} {pos' : Pos} {value : Expr} (cl : Cls X.K C') (na : NoAttr X.K C' f) (ho : PE X o (tVar i)) (hv : PE X value (tD (gx X C) W md)) (hs : swapsWith value (some (.Attribute o f pos')) pos.line X.env = pure false := by rfl) :
    PS X (.Assign [.Attribute o f pos'] value pos) (tS (gx X C) W (fsetM C' i f md)) :=
  psImp (ps_fld ho hv hs) fun Z σ H ⟨B, F, env, h⟩ => by
    have h : Ps (gx X C) W (bnd md fun d => bnd (oins C' i) fun fs => ask (fs.length < 1000) (bnd (putO i (.ins C' (putFD f d fs))) fun _ => ret .nx)) Z σ H B F env := h
    refine (h.bind (Ra := RD (gx X C)) (as := []) (xs := [])).imp fun y H1 ⟨F1, env1, d, ⟨Qd, Ed, rel, hm, z1, z2, z3, z4, z5⟩, r⟩ => ?_
    have p : Pt (gx X C) W RU σ H1 (fun _ H' => Z.nx σ H') (bnd (oins C' i) fun fs => ask (fs.length < 1000) (bnd (putO i (.ins C' (putFD f d fs))) fun _ => ret ())) B F1 env1 :=
      ⟨fun _ env' => Qd .nx env', Ed, rel, hm, fun _ env' _ F' H' q st rl _ => z1 env' σ F' H' q st rl, fun x env' cls d F' H' q st rl r => z5 x env' σ cls d F' H' q st rl r⟩
    obtain ⟨a, dx, fs, l, e1, hv, rf, own, p2⟩ := p.oins
    obtain ⟨sz, p2⟩ := p2.asked
    refine ⟨_, e1, a, C', dx, l, rfl, hv, cl, na, by rw [← rf.len]; exact sz, ?_⟩
    obtain ⟨_, nF, nB⟩ := rel.ownSome own
    have hw : OwAt (gx X C) F1 H1 a (.ins C' fs) := ⟨dx, l, hv, rf⟩
    refine (p2.putO (u := .ins C' dx (putF f y l)) own hw ⟨dx, _, upd_same, ?_⟩).pure (b := ()) trivial
    exact FsR.mono (stp_own (B := B) nF nB hw.notup hw.noTab hw.noCode) _ _ (rf.put r)
/-- own.f -/
def ofldM (C : Addr) (i : Nat) (f : Str) : M D := bnd (oins C i) fun fs => match fs.lookup f with
  | some d => ret d
  | none => fail
theorem e_ofld {C' : Addr} {f : Str} (cl : Cls X.K C') (na : NoAttr X.K C' f) (ho : PE X e (tVar i)) (hb : attributeBase e f X.env (eval e X.env) = eval e X.env := by rfl) : PE X (.Attribute e f pos) (tD (gx X C) W (ofldM C' i f)) :=
  peImp (pe_fld ho hb) fun σ H Q ⟨B, F, env, h⟩ => by
    obtain ⟨a, dx, fs, l, e1, hv, rf, own, p⟩ := Pt.oins h
    cases z : fs.lookup f with
    | none => simp only [z] at p; exact (Pt.no p).elim
    | some d =>
      simp only [z] at p
      obtain ⟨v, hl, rv⟩ := rf.look z
      exact ⟨_, e1, a, C', dx, l, v, rfl, hv, cl, na, hl, p.pure rv⟩
end
end DL

set_option Elab.async false
set_option linter.all false
set_option maxRecDepth 100000
set_option maxHeartbeats 2000000
/-! Making an instance. -/
namespace DL
open PySem PySem.Spec PyProof.Rows L2
variable [Tbs]

/-- how written and named values come to the parameters behind self -/
structure KwM (K : PySem.W.Frag) (fd : FuncData) (ps : List Str) (n : Nat) (ks : List Str) (gD : List D → List D → List D) (g : List Value → List Value → List Value) (gV gT : List V → List V → List V) : Prop where
  b : KBn K fd ps (n + 1) ks g gV
  hd : ∀ v vs zs, gV (v :: vs) zs = v :: gT vs zs
  len : ∀ vs zs, vs.length = n → zs.length = ks.length → (gT vs zs).length + 1 = ps.length
  rel : ∀ {G : Gx} {F : Addr → Prop} {H : Hp} {ds es : List D} {vs zs : List V}, RpL G F H ds vs → RpL G F H es zs → RpL G F H (gD ds es) (gT vs zs)
def mkM (C : Addr) (n m : Nat) (gD : List D → List D → List D) (df : DF) (ds es : List D) : M O := fun env Q E => ds.length = n ∧ es.length = m ∧ ∀ a, df (.io a (.ins C []) :: (gD ds es).map .im)
  (fun (r : Res) (ss : List Slot) => match r with
    | .d .non => (match ss[0]? with
      | some (Slot.io _ o) => Q o env
      | _ => False)
    | _ => False) (fun x _ => E x env)
section
variable {X : Cx} {C C' : Addr} {W : WX} {a b c e : Expr} {es : List Expr} {ms mz : M (List D)} {pos apos cpos p : Pos} {i : Nat}
variable {k n j : Nat} {f : Addr} {fd : FuncData} {ps ks : List Str} {df : DF} {x : Str} {kws : List Keyword}
variable {gD : List D → List D → List D} {g : List Value → List Value → List Value} {gV gT : List V → List V → List V}
theorem guards_make {A : Around} {us : List Value} {kw : List (Str × Value)} (h : A.guards = some []) : (A.under (.builtin "type.__call__" ⟨.ref C :: us, kw⟩)).guards = some [] := by
  simp [Around.under, pushGuards, Code.guards, Code.isGuard, guardIds, h]
theorem Pt.mk {B F : Addr → Prop} {env : List Slot} {σ : L2.St} {H : Hp} {Q : V → Hp → Prop} {ds es : List D} {vs zs : List V} (kd : KwM X.K fd ps j ks gD g gV gT) (hn : n = ps.length) (h : Pt (gx X C) W (RO (gx X C)) σ H Q (mkM C' j ks.length gD df ds es) B F env) (r1 : RpL (gx X C) F H ds vs) (r2 : RpL (gx X C) F H es zs) :
    vs.length = j ∧ zs.length = ks.length ∧ ∀ x dx, H x = none → H dx = none → dx ≠ x → spD (gx X C) n df (gV (.ref x :: vs) zs) (upd (upd H dx (.own x)) x (.ins C' dx [])) (fun v H2 => v = .non ∧ Q (.ref x) H2) (WE W σ) := by
  obtain ⟨Qd, Ed, rel, ⟨l1, l2, hm⟩, hq, he⟩ := h
  have a1 := r1.length.symm.trans l1
  have a2 := r2.length.symm.trans l2
  refine ⟨a1, a2, fun x dx nx nd ne => ?_⟩
  rw [kd.hd]
  have nx2 : upd H dx (.own x) x = none := by rw [upd_ne (Ne.symm ne)]; exact nx
  have kp : ∀ b o, H b = some o → upd (upd H dx (.own x)) x (.ins C' dx []) b = some o := fun b o q => by
    rw [upd_ne (ne_of_none q nx), upd_ne (ne_of_none q nd)]; exact q
  have st0 : Stp B F H F (upd (upd H dx (.own x)) x (.ins C' dx [])) := stp_keep kp
  have rr := RpL.mono st0 _ _ (kd.rel (G := gx X C) r1 r2)
  have lt := kd.len vs zs a1 a2
  have lr := rr.length
  -- the callee: it owns x alone
  have nB : ∀ b, Nt H b → b ≠ x := fun b h z => h.1 (z ▸ nx)
  have own0 : ∀ i s, (Slot.io x (.ins C' []) :: (gD ds es).map .im)[i]? = some s → s.own = true → i = 0 := fun i s e w => by
    cases i with
    | zero => rfl
    | succ i => rw [(im_slot (B' := B) rr (by simpa using e)).2] at w; cases w
  have relC : Rel (gx X C) (fun b => Nt H b) F ((V.ref x :: gT vs zs).map some) (Slot.io x (.ins C' []) :: (gD ds es).map .im) (upd (upd H dx (.own x)) x (.ins C' dx [])) := by
    refine ⟨by simp [lr], fun i s e => ?_, fun i l b ⟨⟨s, e, w⟩, _⟩ ⟨⟨s', e', w'⟩, _⟩ => (own0 i s e w).trans (own0 l s' e' w').symm, fun b h => h.keep kp, fun b h => (rel.hF b h).keep kp, st0.tb rel.tb⟩
    · cases i with
      | zero =>
        cases (Option.some.inj e)
        exact ⟨rfl, fun z => (rel.hF x z).1 nx, fun z => z.1 nx, dx, [], upd_same, rfl⟩
      | succ i => exact (im_slot rr (by simpa using e)).1
  refine ⟨by rw [List.length_cons, lt, hn], fun b => Nt H b, F, _, _, _, relC, hm x, fun r ss' v F' H' q st rl rs => ?_, fun ex ss' cls d F' H' q st rl rx => ?_⟩
  · have hoo : ∀ i a, OwnAt env σ i a → Nt H a := fun i a o => ⟨(rel.ownSome o).1, rel.ownTab o⟩
    have st' : Stp (fun b => Nt H b) F H F' H' := ((stp_keep kp).trans st)
    obtain ⟨st2, rel2⟩ := rel.called st' rel.hB hoo rl.hF
    cases r with
    | o _ => exact (show False from q).elim
    | d d => cases d with
      | non =>
        refine ⟨rs, ?_⟩
        cases z : ss'[0]? with
        | none => simp only [z] at q
        | some s0 =>
          simp only [z] at q
          cases s0 with
          | io b o =>
            obtain ⟨e1, e2, e3, e4⟩ := rl.sl 0 _ z
            cases (show some (some (V.ref x)) = some (some (V.ref b)) from e1)
            exact hq o env (.ref x) F' H' q st2 rel2 ⟨x, rfl, e2, fun w => (rel.hB x w).1 nx, e4, fun i w => (rel.ownSome w).1 nx⟩
          | _ => exact q.elim
      | _ => exact (show False from q).elim
  · have hoo : ∀ i a, OwnAt env σ i a → Nt H a := fun i a o => ⟨(rel.ownSome o).1, rel.ownTab o⟩
    have st' : Stp (fun b => Nt H b) F H F' H' := ((stp_keep kp).trans st)
    obtain ⟨st2, rel2⟩ := rel.called st' rel.hB hoo rl.hF
    exact he ex env cls d F' H' q st2 rel2 rx
theorem run_mk {pins : List (Addr × Obj)} {σ : L2.St} {H : Hp} {s : Shared} {Q : VK} {us ws : List Value} {vs zs : List V} {sp : Sp} (Mk : Mk X.K C' f) (Fn : FnG X.prog X.w X.K X.mg X.base k f fd ps sp) (hr : Room (k + 1) X.A) (hG : X.A.guards = some []) (hb : KBn X.K fd ps (j + 1) ks g gV) (tk : L2N.Takes X W)
    (I : Inv X pins σ H s) (r : Vals vs us) (rz : Vals zs ws) (l1 : vs.length = j) (l2 : zs.length = ks.length)
    (h : ∀ x dx, H x = none → H dx = none → dx ≠ x → sp (gV (.ref x :: vs) zs) (upd (upd H dx (.own x)) x (.ins C' dx [])) (fun v H2 => v = .non ∧ Q (.ref x) H2) (WE W σ)) :
    wpAny (model X.prog X.w) X.A (call (.ref C') us (ks.zip ws)) (EP X pins σ Q) X.xe s := by
  have wish := h (s.heap.objs.size + 1) s.heap.objs.size (I.hok.fresh (Nat.le_succ _)) (I.hok.fresh (Nat.le_refl _)) (Nat.ne_of_lt (Nat.lt_succ_self _))
  have J := Inv.made (C := C') I
  have rs : Vals (V.ref (s.heap.objs.size + 1) :: vs) (Value.ref (s.heap.objs.size + 1) :: us) := .cons rfl r
  have ln : (Value.ref (s.heap.objs.size + 1) :: us).length = j + 1 := by rw [List.length_cons, ← r.length, l1]
  refine wpAny_call (make_map (f := f) I.kIn Mk.makes Mk.init (beq_iff_eq.mp Mk.fn) (codeAny_mono (Fn.run _ X.stack _ _ ⟨Value.ref (s.heap.objs.size + 1) :: us, ks.zip ws⟩ (g (Value.ref (s.heap.objs.size + 1) :: us) ws) _ _ (WE W σ) (hr.make C' us (ks.zip ws)) (guards_make hG)
    (J.env0.make C' us (ks.zip ws)) (hb.to _ (Value.ref (s.heap.objs.size + 1) :: us) ws J.kIn ln (rz.length.symm.trans l2)) (hb.rel rs rz) wish) fun rr s' q => ?_))
  match rr, q with
  | .error ex, q => exact L2N.passAt tk σ pins _ _ ex s' J q
  | .ok (.ret u), q =>
    obtain ⟨v, H', J', rv, ev, q'⟩ := J.after q
    subst ev
    exact ⟨rv, ⟨V.ref (s.heap.objs.size + 1), H', J', rfl, q'⟩⟩
  | .ok .next, q => exact (show False from q).elim
  | .ok .brk, q => exact (show False from q).elim
  | .ok .cont, q => exact (show False from q).elim
/-- C(e, .., k = v, ..) -/
theorem c_mkK (Mk : Mk X.K C' f) (Fn : FnG X.prog X.w X.K X.mg X.base k f fd ps (spD (gx X C) n df)) (hr : Room (k + 1) X.A) (hG : X.A.guards = some []) (tk : L2N.Takes X W) (hg : Gl X x) (hm : X.mg x = some (.ref C')) (kd : KwM X.K fd ps j ks gD g gV gT) (hn : n = ps.length)
    (ha : PA X (e :: es) (tDs (gx X C) W ms)) (hkw : PK X kws (tDs (gx X C) W mz)) (hall : (backToKw pos (keywordEach kws X.env)).all (·.1.isSome) = true := by rfl) (hks : (backToKw pos (keywordEach kws X.env)).filterMap (·.1) = ks := by rfl)
    (hdb : (x == ("__debug__" : Str)) = false := by decide) (he : starEach (e :: es) X.env = (false, eval e X.env) :: starEach es X.env := by rfl)
    (hpl : ((backTo pos (starEach (e :: es) X.env)).any (·.1) || (backToKw pos (keywordEach kws X.env)).any (·.1.isNone)) = false := by rfl) :
    PE X (.Call (.Name x p) (e :: es) kws pos) (tO (gx X C) W (bnd ms fun ds => bnd mz fun es => mkM C' j ks.length gD df ds es)) := ⟨fun pins s σ H Q I h => by
  refine wpAny_Call_Name_kw (ld_glob I hg hm (PySem.W.callWith_KW (h₀ := X.base) I.ok.mod.kin Mk.kp hall (thn (ha.run pos pins s σ H (fun vs H1 => Lift (gx X C) W (RDs (gx X C)) mz σ H1 fun zs H2 => vs.length = j ∧ zs.length = ks.length ∧
    ∀ x dx, H2 x = none → H2 dx = none → dx ≠ x → spD (gx X C) n df (gV (.ref x :: vs) zs) (upd (upd H2 dx (.own x)) x (.ins C' dx [])) (fun v H3 => v = .non ∧ Q (.ref x) H3) (WE W σ)) I ?_) fun us s1 ⟨vs, H1, I1, r, q⟩ =>
    thn (hkw.run pos pins s1 σ H1 _ I1 q) fun ws s2 ⟨zs, H2, I2, rz, l1, l2, q2⟩ => ⟨I2.kIn, ?_⟩) hpl he) hdb)
  · exact (lift1 (Ra := RDs (gx X C)) h).imp fun vs H1 ⟨B, F, env, ds, q, r⟩ => (q.bind (Ra := RDs (gx X C)) (as := ds) (xs := vs) r).imp fun zs H2 ⟨F2, env2, es, q2, r1, r2⟩ => q2.mk kd hn r1 r2
  · rw [hks]
    exact run_mk Mk Fn hr hG kd.b tk I2 r rz l1 l2 q2⟩
/-- C(k = v, ..) -/
theorem c_mkK0 (Mk : Mk X.K C' f) (Fn : FnG X.prog X.w X.K X.mg X.base k f fd ps (spD (gx X C) n df)) (hr : Room (k + 1) X.A) (hG : X.A.guards = some []) (tk : L2N.Takes X W) (hg : Gl X x) (hm : X.mg x = some (.ref C')) (kd : KwM X.K fd ps 0 ks gD g gV gT) (hn : n = ps.length)
    (hkw : PK X kws (tDs (gx X C) W mz)) (hall : (backToKw pos (keywordEach kws X.env)).all (·.1.isSome) = true := by rfl) (hks : (backToKw pos (keywordEach kws X.env)).filterMap (·.1) = ks := by rfl)
    (hdb : (x == ("__debug__" : Str)) = false := by decide) (hpl : ((backTo pos (starEach [] X.env)).any (·.1) || (backToKw pos (keywordEach kws X.env)).any (·.1.isNone)) = false := by rfl) :
    PE X (.Call (.Name x p) [] kws pos) (tO (gx X C) W (bnd mz fun es => mkM C' 0 ks.length gD df [] es)) := ⟨fun pins s σ H Q I h => by
  refine wpAny_Call_Name_kw (ld_glob I hg hm (PySem.W.callWith_KW0 (h₀ := X.base) I.ok.mod.kin Mk.kp hall (thn (hkw.run pos pins s σ H (fun zs H2 => zs.length = ks.length ∧
    ∀ x dx, H2 x = none → H2 dx = none → dx ≠ x → spD (gx X C) n df (gV [.ref x] zs) (upd (upd H2 dx (.own x)) x (.ins C' dx [])) (fun v H3 => v = .non ∧ Q (.ref x) H3) (WE W σ)) I ?_) fun ws s2 ⟨zs, H2, I2, rz, l2, q2⟩ => ⟨I2.kIn, ?_⟩) hpl) hdb)
  · exact (lift1 (Ra := RDs (gx X C)) h).imp fun zs H1 ⟨B, F, env, es, q, r⟩ => (q.mk (ds := []) (vs := []) kd hn rfl r).2
  · rw [hks]
    exact run_mk (us := []) (vs := []) Mk Fn hr hG kd.b tk I2 .nil rz rfl l2 q2⟩
/-- C(e, ..) -/
theorem c_mk (Mk : Mk X.K C' f) (Fn : FnG X.prog X.w X.K X.mg X.base k f fd ps (spD (gx X C) n df)) (hr : Room (k + 1) X.A) (hG : X.A.guards = some []) (tk : L2N.Takes X W) (hg : Gl X x) (hm : X.mg x = some (.ref C')) (kd : KwM X.K fd ps j [] gD g gV gT) (hn : n = ps.length)
    (ha : PA X (e :: es) (tDs (gx X C) W ms)) (hdb : (x == ("__debug__" : Str)) = false := by decide) (he : starEach (e :: es) X.env = (false, eval e X.env) :: starEach es X.env := by rfl) (hpl : (backTo pos (starEach es X.env)).any (·.1) = false := by rfl) :
    PE X (.Call (.Name x p) (e :: es) [] pos) (tO (gx X C) W (bnd ms fun ds => mkM C' j 0 gD df ds [])) := ⟨fun pins s σ H Q I h => by
  refine wpAny_Call_Name_kw (ld_glob I hg hm (PySem.W.callWith_K (h₀ := X.base) I.ok.mod.kin Mk.kp (thn (ha.run pos pins s σ H (fun vs H1 => vs.length = j ∧
    ∀ x dx, H1 x = none → H1 dx = none → dx ≠ x → spD (gx X C) n df (gV (.ref x :: vs) []) (upd (upd H1 dx (.own x)) x (.ins C' dx [])) (fun v H3 => v = .non ∧ Q (.ref x) H3) (WE W σ)) I ?_) fun us s1 ⟨vs, H1, I1, r, l, q⟩ => ⟨I1.kIn, ?_⟩) he hpl) hdb)
  · exact (lift1 (Ra := RDs (gx X C)) h).imp fun vs H1 ⟨B, F, env, ds, q, r⟩ => ⟨(q.mk (ks := []) (es := []) (zs := []) kd hn r rfl).1, (q.mk (ks := []) (es := []) (zs := []) kd hn r rfl).2.2⟩
  · exact run_mk (ks := []) (ws := []) (zs := []) Mk Fn hr hG kd.b tk I1 r .nil l rfl q⟩
/-- a Hall that nobody writes any more -/
def hallOf : O → Option (Addr × Str × Int × Str × Int)
  | .ins cl [(f1, .int g), (f2, .int s)] => some (cl, f1, g, f2, s)
  | _ => none
theorem hallOf_eq {o : O} {cl : Addr} {f1 f2 : Str} {g s : Int} (h : hallOf o = some (cl, f1, g, f2, s)) : o = .ins cl [(f1, .int g), (f2, .int s)] := by
  unfold hallOf at h
  split at h
  · cases h; rfl
  · cases h
def hallM (C : Addr) (o : O) : M D := match hallOf o with
  | some (cl, f1, g, f2, s) => ask (cl = C ∧ f1 = "guests" ∧ f2 = "spare") (ret (.hall g s))
  | none => fail
theorem e_hall {mo : M O} (h : PE X e (tO (gx X C) W mo)) : PE X e (tD (gx X C) W (bnd mo (hallM C))) := peImp h fun σ H Q q => (lift1 (Ra := RO (gx X C)) q).imp fun x H1 ⟨B, F, env, o, p, a, ea, nF, nB, ho, hn⟩ => by
  subst ea
  cases z : hallOf o with
  | none => simp only [hallM, z] at p; exact (Pt.no p).elim
  | some t =>
    obtain ⟨cl, f1, g, f2, s⟩ := t
    simp only [hallM, z] at p
    have eo := hallOf_eq z
    subst eo
    obtain ⟨⟨e1, e2, e3⟩, Qd, Ed, rel, hm, hq, he⟩ := Pt.asked p
    obtain ⟨dx, l, h1, v1, l1, el1, r1, v2, l2, el2, r2, el3⟩ := ho
    subst e1 e2 e3
    cases (show _ = _ from el3)
    cases (show _ = _ from r1)
    cases (show _ = _ from r2)
    subst el2
    subst el1
    have st : Stp B F H1 (fun b => F b ∨ b = a) H1 := ⟨fun _ z => .inl z, fun b z => z.imp id fun w => by rw [w]; exact nB, fun b u z e _ => e, fun _ _ z => z, fun t => t.ext (fun _ z => .inl z) fun _ _ z => z⟩
    have rel' : Rel (gx X cl) B (fun b => F b ∨ b = a) σ env H1 := rel.step st (fun i b z => ⟨rfl, fun w => w.elim (rel.ownSome z).2.1 fun w => by subst w; exact hn i z⟩) fun b z => z.elim (rel.hF b) fun w => by rw [w]; exact Nt.of h1
    exact hq (.hall g s) env (.ref a) _ H1 hm st rel' ⟨a, dx, rfl, .inr rfl, h1⟩
end
end DL

set_option Elab.async false
set_option linter.all false
set_option maxRecDepth 100000
set_option maxHeartbeats 2000000
/-! repr. -/
namespace DL
open PySem PySem.Spec PyProof.Rows L2
variable [Tbs]
/-- fit to be shown -/
def shOk (d : PyData) : Bool := d.showable && !d.hasDict && decide (d.depth ≤ 64) && d.leavesShort 13 && decide (d.bulk ≤ 2 ^ 20)
def rShow (K : PySem.W.Frag) : List V → Hp → VK → Prop := fun xs H Q => ∃ p d, xs = [.ref p] ∧ Dp K H (.ref p) d ∧ shOk d = true ∧ Q (.str d.shown) H
def compD : D → Bool
  | .tup _ => true
  | .lst _ => true
  | _ => false
def reprD (d : D) : M D := ask (compD d = true ∧ pyOk d = true ∧ shOk (py d) = true) (ret (.str (py d).shown))
section
variable {X : Cx} {C : Addr} {W : WX} {a : Expr} {ma : M D} {pos p : Pos}
theorem call_show (hG : X.A.guards = some []) (hu : X.A.units + 100 < cLine) : CallR X (.builtin "repr") (rShow X.K) := by
  rintro pins s σ H xs us Q J r ⟨a, d, ex, dp, ok, q⟩
  subst ex
  obtain ⟨u, eu, ru⟩ := vals1 r
  subst eu
  obtain ⟨as, rd⟩ := Dp.reads J d (.ref a) u dp ru
  cases ru
  simp only [shOk, Bool.and_eq_true, Bool.not_eq_true', decide_eq_true_eq] at ok
  obtain ⟨⟨⟨⟨o1, o2⟩, o3⟩, o4⟩, o5⟩ := ok
  exact repr_of_reads' rd o1 (PyData.noDict_hsm o2) hG (by omega) (fun b o e => e) (fun h' u tk kp => ⟨.str d.shown, H, J.kept kp, ⟨u, rfl⟩, q⟩) (PyData.shown_fits_bulk (B := 13) (by decide) (by decide) o4 o5)
theorem fits_repr {G : Gx} : FitsC G W (rShow G.K) (un1 reprD) := fits1 fun {σ H Q B F env x d} p r => by
  obtain ⟨⟨c1, c2, c3⟩, p⟩ := Pt.asked p
  have dp := Rp.dp r c2
  cases d with
  | tup ds => obtain ⟨a, vs, e, h1, h2⟩ := r; subst e; exact ⟨a, _, rfl, dp, c3, p.pure (b := .str _) rfl⟩
  | lst ds => obtain ⟨a, vs, e, h1, h2⟩ := r; subst e; exact ⟨a, _, rfl, dp, c3, p.pure (b := .str _) rfl⟩
  | _ => cases c1
end
end DL

set_option Elab.async false
set_option linter.all false
set_option maxRecDepth 100000
set_option maxHeartbeats 2000000
/-! The law's end. -/
namespace DL
open PySem PySem.Spec PyProof.Rows L2

theorem caller_room {k : Nat} (h : k ≤ 200) : Room k callerA := by
  have q : Room 200 callerA := ⟨rfl, by decide, by decide⟩
  exact q.mono h
/-- an empty table of code objects -/
abbrev tab0 : Obj := { cls := .none, data := .fields #[] }
/-- the tables at a heap's start: (code object, table, the lambdas' name) -/
structure TabsIn (K : PySem.W.Frag) (cs : List (Addr × Addr × Str)) (h : Heap) : Prop where
  tab : ∀ p ∈ cs, h.get? p.2.1 = some tab0
  out : ∀ p ∈ cs, K.lookup p.2.1 = none
  code : ∀ p ∈ cs, PySem.W.CodeHd h p.1 p.2.1
/-- a law's def from a heap that holds the script -/
theorem law_from {P : Program} {w : World} {K : PySem.W.Frag} {mg mb : Str → Option Value} {k : Nat} {fa a : Addr} {fd : FuncData} {x : Str} {sp : Sp} {t : Shared} {us : List Value} {cs : List (Addr × Addr × Str)} (kin : K.In t.heap) (gl : t.heap.Ns mainGlobals mg) (bl : t.heap.Ns builtinsNs mb) (bb : ∀ x : Str, x ≠ "__name__" → mb x = bootBuiltins x) (nl : t.heap.NoLimit)
    (ng : t.gens = #[]) (tabs : TabsIn K cs t.heap) (bmod : ∃ (bm : Addr) (ob : Obj), mg "__builtins__" = some (.ref bm) ∧ bm ≠ builtinsNs ∧ t.heap.get? bm = some ob ∧ ob.cls = .type "module" ∧ ob.dict = some builtinsNs ∧ ob.data = .plain)
    (scr : t.heap.get? a = some { cls := .type "list", data := .seq us.toArray }) (rk : Room k callerA) (gu : callerA.guards = some [])
    (F : ∀ base : Heap, K.In base → base.Ns mainGlobals mg → (∀ p ∈ cs, LamX.TabB base mg p.1 p.2.1) → FnG P w K mg base k fa fd [x] sp) (bt : ∀ (s : Shared) (u : Value), BindsTo s fd ⟨[u], []⟩ [(x, u)])
    (H : Hp) (ok : HOk P w H t.heap) (alone : ∀ b, H b ≠ none → (b = a ∧ K.lookup a = none ∧ ∃ o xs, H b = some (.frz o (.lst xs))) ∨ ((∃ p ∈ cs, b = p.2.1) ∧ H b = some (.tbl #[]))) (wish : sp [.ref a] H (fun v _ => v = .bl true) fun _ _ _ => False) :
    codeAny (model P w) callerA (.call (.ref fa) ⟨[.ref a], []⟩) (fun r t' => r = .ok (.ret (.bool true)) ∧ OldK t.heap t'.heap ∧ t'.os = t.os ∧ AllBare t'.gens) t := by
  have free : ∀ {b : Addr} {o : Obj}, t.heap.get? b = some o → (∀ vs n, o.data ≠ .seq vs n) → o.data ≠ .fields #[] → H b = none := fun {b o} e n1 n2 => by
    cases z : H b with
    | none => rfl
    | some u =>
      rcases alone b (by rw [z]; exact fun y => nomatch y) with ⟨eb, _⟩ | ⟨⟨p, hp, eb⟩, _⟩
      · subst eb; rw [scr] at e; cases e; exact (n1 _ _ rfl).elim
      · subst eb; rw [tabs.tab p hp] at e; cases e; exact (n2 rfl).elim
  have dic : ∀ {b : Addr} {m : Str → Option Value}, t.heap.Ns b m → (hidT t.heap H).Ns b m := fun {b m} ⟨o, es, ep, e, d, r⟩ => ⟨o, es, ep, hidT_get e (free e (fun vs n z => by rw [d] at z; cases z) fun z => by rw [d] at z; cases z), d, r⟩
  have kb : K.In (hidT t.heap H) := fun b o e => hidT_get (kin b o e) (by
    cases z : H b with
    | none => rfl
    | some u =>
      rcases alone b (by rw [z]; exact fun y => nomatch y) with ⟨e1, e2, _⟩ | ⟨⟨p, hp, eb⟩, _⟩
      · subst e1; rw [e2] at e; cases e
      · subst eb; rw [tabs.out p hp] at e; cases e)
  have md : Mod K mg (hidT t.heap H) := ⟨kb, dic gl, ⟨mb, dic bl, bb⟩, let ⟨mc, h1, h2⟩ := nl; ⟨mc, dic h1, h2⟩⟩
  have env0 : Env0 P w K mg (hidT t.heap H) callerA [] t H := ⟨rfl, md, fun b o e => of_hidT e, Nat.le_of_eq (hidT_size _ _), trivial, fun b z => (List.not_mem_nil z).elim, ok, .of_eq ng⟩
  have tb : ∀ p ∈ cs, LamX.TabB (hidT t.heap H) mg p.1 p.2.1 := fun p hp => by
    have e0 := tabs.tab p hp
    obtain ⟨o, us, file, tf, flags, tg, inF, text, tt, c1, c2, c3, c4, c5⟩ := tabs.code p hp
    obtain ⟨bm, ob, b1, b2, b3, b4, b5, b6⟩ := bmod
    obtain ⟨om, em, pm, m1, m2, _⟩ := id gl
    refine ⟨⟨o, us, file, tf, flags, tg, inF, text, tt, hidT_get c1 (free c1 (fun vs n z => ?_) fun z => ?_), c2, c3, c4, c5⟩, ⟨bm, ob, b1, b2, fun q => ?_, fun q => ?_, hidT_get b3 (free b3 (fun vs n z => ?_) fun z => ?_), b4, b5, b6⟩, fun q => ?_⟩
    · rw [c3] at z; cases z
    · rw [c3] at z; cases z; simp at c4
    · rw [q, m1] at b3; cases b3; rw [m2] at b6; cases b6
    · rw [q, e0] at b3; cases b3; cases b6
    · rw [b6] at z; cases z
    · rw [b6] at z; cases z
    · rw [q, e0] at m1; cases m1; cases m2
  refine codeAny_mono ((F _ kb (dic gl) tb).run callerA [] t H ⟨[.ref a], []⟩ [.ref a] [.ref a] _ _ rk gu env0 (bt t (.ref a)) (.cons rfl .nil) wish) fun r t' q => ?_
  match r, q with
  | .error e, q =>
    obtain ⟨_, _, _, _, _, _, _, _, _, _, _, _, no⟩ := q
    exact (show False from no).elim
  | .ok (.ret u), ⟨v, H', os, bare, un, ok', rv, ev⟩ =>
    have ev : v = .bl true := ev
    subst ev
    cases (show u = Value.bool true from rv)
    have grown : ∀ p ∈ cs, H p.2.1 = some (.tbl #[]) → ∃ more : Array Value, t'.heap.get? p.2.1 = some { cls := .none, data := .fields more } := fun p hp z => by
      obtain ⟨more, z2⟩ := un.tbls p.2.1 #[] z
      exact ⟨_, ok' p.2.1 _ z2⟩
    have stays : ∀ b o, t.heap.get? b = some o → t'.heap.get? b = some o ∨ ∃ p ∈ cs, b = p.2.1 ∧ H b = some (.tbl #[]) := fun b o e => by
      cases z : H b with
      | none => exact .inl (un.keep b o e z (fun y => (List.not_mem_nil y).elim) (by simp))
      | some u =>
        rcases alone b (by rw [z]; exact fun y => nomatch y) with ⟨_, _, ob, xs, z2⟩ | ⟨⟨p, hp, eb⟩, z2⟩
        · have e1 := (ok b _ z2).1
          rw [e] at e1
          cases e1
          exact .inl (ok' b _ (un.frzs b _ _ z2)).1
        · exact .inr ⟨p, hp, eb, z ▸ z2⟩
    refine ⟨rfl, ⟨fun b o e => ?_, fun b o e => ?_⟩, os, bare⟩
    · rcases stays b o e with h | ⟨p, hp, eb, z⟩
      · exact .inl h
      · subst eb
        obtain ⟨more, hm⟩ := grown p hp z
        have e0 := tabs.tab p hp
        rw [e0] at e; cases e
        exact .inr (.inl ⟨((tabs.code p hp).tab e0).isCodeTable, rfl, #[], more, rfl, by rw [Array.empty_append]; exact hm⟩)
    · rcases stays b o e with h | ⟨p, hp, eb, z⟩
      · exact ⟨o, h⟩
      · subst eb
        obtain ⟨more, hm⟩ := grown p hp z
        exact ⟨_, hm⟩
  | .ok .next, q => exact (show False from q).elim
  | .ok .brk, q => exact (show False from q).elim
  | .ok .cont, q => exact (show False from q).elim
/-- the tables by the defs' names -/
def TabsBy (q : Program) (K : PySem.W.Frag) (cs : List (Addr × Addr × Str)) (xs : List Str) : Prop := ∀ p ∈ cs, K.lookup p.2.1 = none ∧ ∃ x ∈ xs, ((recsOf q).any fun e => e.name == x) = true ∧ PySem.W.tabIn K x = some (p.1, p.2.1)
/-- THE END: the law by its own plain law -/
theorem walk_g {l : PySem.W.OpenLaw} {n k : Nat} {q : Program} {loose : List Str} {XP : (Str → Option Value) → Heap → Prop} {YP : World → Heap → Prop} {d : DefRec} {K : Params → PySem.W.Frag} {x : Str} {xs : List Str} (df : Addr → DF) (hn : l.most = some n) (hn2 : n ≤ 1000) (hdf : d.params.defaults = []) (hk : k ≤ 200) (gu : callerA.guards = some [])
    (hY : ∀ (w : World) (h : Heap), YP w h → (K w.params).In h)
    (F : ∀ (w : World) (mg : Str → Option Value) (fa : Addr) (h : Heap), (K w.params).In h → h.Ns mainGlobals mg → mg d.name = some (.ref fa) →
      ∃ (cs : List (Addr × Addr × Str)) (C : Addr) (fd : FuncData), TabsBy q (K w.params) cs xs ∧ (∀ (s : Shared) (u : Value), BindsTo s fd ⟨[u], []⟩ [(x, u)]) ∧ ∀ base : Heap, (K w.params).In base → base.Ns mainGlobals mg → (∀ p ∈ cs, LamX.TabB base mg p.1 p.2.1) →
        FnG l.prog w (K w.params) mg base k fa fd [x] (@spD ⟨cs.map (·.2)⟩ ⟨C, mg, K w.params, w, l.prog⟩ 1 (df C)))
    (law : ∀ (C : Addr) (ns : List Int), ns.length ≤ n → df C [.im (.scr ns)] (fun r _ => r = .d (.bl true)) (fun _ _ => False)) : PySem.W.WalkO q loose XP YP l.row.toRowW d [] (fun f vs => PySem.call f vs) := by
  refine Att.attach_call hn hdf fun w s₀ t mg mb fa o pm cd doc a us ns G Y ho hd hcd hmg scr isn len ng => ?_
  have kin := hY w _ Y
  obtain ⟨cs, C, fd, TB, bt, Fd⟩ := F w mg fa _ kin G.T.g hmg
  have tabs : TabsIn (K w.params) cs t.heap := by
    have at_ : ∀ p ∈ cs, PySem.W.CodeHd t.heap p.1 p.2.1 ∧ t.heap.get? p.2.1 = some tab0 := fun p hp => by
      obtain ⟨_, y, _, hr, ht⟩ := TB p hp
      obtain ⟨d', hd', hn'⟩ := List.any_eq_true.mp hr
      cases e : (recsOf q).find? (fun e => e.name == y) with
      | none => exact absurd hn' (by simpa using List.find?_eq_none.mp e d' hd')
      | some d2 => exact PySem.W.tab_of G.T kin e ht
    exact ⟨fun p hp => (at_ p hp).2, fun p hp => (TB p hp).1, fun p hp => (at_ p hp).1⟩
  have rv := vals_ints isn
  have notA : ∀ p ∈ cs, p.2.1 ≠ a := fun p hp z => by
    have e := tabs.tab p hp
    rw [z, scr] at e
    cases e
  have wish : ∀ H : Hp, (∀ p ∈ cs, H p.2.1 = some (.tbl #[])) → (∀ H', SqL (K w.params) H' a (ns.map V.int)) ∨ (Nt H a ∧ Rd H a (.lst (ns.map V.int))) → @spD ⟨cs.map (·.2)⟩ ⟨C, mg, K w.params, w, l.prog⟩ 1 (df C) [.ref a] H (fun v _ => v = .bl true) fun _ _ _ => False := fun H ht hs => by
    letI : Tbs := ⟨cs.map (·.2)⟩
    refine ⟨rfl, fun _ => False, fun b => b = a ∧ Nt H b, [.im (.scr ns)], _, _, ⟨rfl, fun i s e => ?_, fun i j b ⟨⟨s, e, w⟩, _⟩ _ => ?_, fun b z => z.elim, fun b z => z.2, fun p hp => ?_⟩, law C ns len, fun r ss' v F' H' e st rl rr => ?_, fun _ _ _ _ _ _ z => z.elim⟩
    · cases i with
      | zero => cases (Option.some.inj e); exact ⟨.ref a, rfl, a, rfl, hs.elim .inr fun q => .inl ⟨⟨rfl, q.1⟩, q.2⟩⟩
      | succ i => cases e
    · cases i with
      | zero => cases (Option.some.inj e); cases w
      | succ i => cases e
    · obtain ⟨p0, hp0, e⟩ := List.mem_map.mp hp
      subst e
      exact ⟨#[], ht p0 hp0, True.intro, fun pos cv hc => by
        have z : codeAmong pos [] = some cv := hc
        simp [codeAmong] at z⟩
    · subst e
      exact rr
  have small : ns.length ≤ sizeLine := Nat.le_trans len (Nat.le_trans hn2 (by rw [sizeLine_eq]; decide))
  cases z : (K w.params).lookup a with
  | some u =>
    have e := kin a u z
    rw [scr] at e
    cases e
    refine law_from (cs := cs) kin G.T.g G.T.b G.T.builtins G.T.nolimit ng tabs G.T.bmain scr (caller_room hk) gu Fd bt (fun b => if ∃ p ∈ cs, b = p.2.1 then some (.tbl #[]) else none) (fun b u e => ?_) (fun b e => ?_) (wish _ (fun p hp => if_pos ⟨p, hp, rfl⟩) (.inl fun H' => .inr ⟨_, us.toArray, _, z, rfl, rfl, rfl, by rw [List.size_toArray, isn.length]; exact small, by simpa using rv⟩))
    · by_cases hb : ∃ p ∈ cs, b = p.2.1
      · cases (if_pos hb).symm.trans e
        obtain ⟨p, hp, eb⟩ := hb
        subst eb
        exact tabs.tab p hp
      · cases (if_neg hb).symm.trans e
    · by_cases hb : ∃ p ∈ cs, b = p.2.1
      · exact .inr ⟨hb, if_pos hb⟩
      · exact (e (if_neg hb)).elim
  | none =>
    refine law_from (cs := cs) kin G.T.g G.T.b G.T.builtins G.T.nolimit ng tabs G.T.bmain scr (caller_room hk) gu Fd bt (fun b => if b = a then some (.frz { cls := .type "list", data := .seq us.toArray } (.lst (ns.map V.int))) else if ∃ p ∈ cs, b = p.2.1 then some (.tbl #[]) else none) (fun b u e => ?_) (fun b e => ?_)
      (wish _ (fun p hp => (if_neg (notA p hp)).trans (if_pos ⟨p, hp, rfl⟩)) (.inr ⟨Nt.of (if_pos rfl), .inr ⟨_, if_pos rfl⟩⟩))
    · by_cases eb : b = a
      · subst eb
        cases (if_pos rfl).symm.trans e
        exact ⟨scr, by rw [List.length_map]; exact small, us, _, rv, scr⟩
      · have e := (if_neg eb).symm.trans e
        by_cases hb : ∃ p ∈ cs, b = p.2.1
        · cases (if_pos hb).symm.trans e
          obtain ⟨p, hp, e0⟩ := hb
          subst e0
          exact tabs.tab p hp
        · cases (if_neg hb).symm.trans e
    · by_cases eb : b = a
      · exact .inl ⟨eb, eb ▸ z, _, _, if_pos eb⟩
      · by_cases hb : ∃ p ∈ cs, b = p.2.1
        · exact .inr ⟨hb, (if_neg eb).trans (if_pos hb)⟩
        · exact (e ((if_neg eb).trans (if_neg hb))).elim
end DL

set_option Elab.async false
set_option linter.all false
set_option maxRecDepth 100000
set_option maxHeartbeats 2000000
/-! What the printed derivations lean on besides. -/
namespace DL
open PySem PySem.Spec PyProof.Rows L2
variable [Tbs]

theorem room100 {k : Nat} {A : Around} (hr : Room k A) : A.units + 100 < cLine := by have := hr.un; omega
/-! ### a def, a method, a class in the written part -/
structure Df (K : PySem.W.Frag) (mg : Str → Option Value) (x qual : Str) (st : Stmt) (ps : List Str) (f : Addr) (fd : FuncData) : Prop where
  fn : Fun K x qual st f fd
  mg : mg x = some (.ref f)
  kp : PySem.W.keepIn K (.ref f) = true
  bi : Binds K fd ps []
structure Dm (K : PySem.W.Frag) (C : Addr) (x qual : Str) (st : Stmt) (ps : List Str) (f : Addr) (fd : FuncData) : Prop where
  fn : Fun K x qual st f fd
  me : Meth K C x f
  bi : Binds K fd ps []
/-- the items at the places idx of us ++ ws -/
def pick {α : Type} (idx : List Nat) (us ws : List α) : List α := idx.filterMap fun i => (us ++ ws)[i]?
theorem pick_length {α : Type} {us ws : List α} : ∀ {idx : List Nat}, (∀ i ∈ idx, i < us.length + ws.length) → (pick idx us ws).length = idx.length
  | [], _ => rfl
  | i :: idx, h => by
    have hi : i < (us ++ ws).length := by rw [List.length_append]; exact h i (by simp)
    unfold pick
    rw [List.filterMap_cons, List.getElem?_eq_getElem hi]
    show (_ :: _ : List α).length = _
    rw [List.length_cons, List.length_cons]
    exact congrArg (· + 1) (pick_length fun j hj => h j (List.mem_cons_of_mem _ hj))
theorem pick_vals {vs zs : List V} {us ws : List Value} (r : Vals vs us) (q : Vals zs ws) : ∀ idx : List Nat, Vals (pick idx vs zs) (pick idx us ws)
  | [] => .nil
  | i :: idx => by
    have rq := r.append q
    unfold pick
    rw [List.filterMap_cons, List.filterMap_cons]
    cases e : (vs ++ zs)[i]? with
    | none =>
      have : (us ++ ws)[i]? = none := by
        rw [List.getElem?_eq_none_iff] at e ⊢
        rw [← rq.length]; exact e
      rw [this]
      exact pick_vals r q idx
    | some v =>
      obtain ⟨u, hu, ru⟩ := rq.get e
      rw [hu]
      exact .cons ru (pick_vals r q idx)
theorem pick_rel {G : Gx} {F : Addr → Prop} {H : Hp} {ds es : List D} {vs zs : List V} (r : RpL G F H ds vs) (q : RpL G F H es zs) : ∀ idx : List Nat, RpL G F H (pick idx ds es) (pick idx vs zs)
  | [] => rfl
  | i :: idx => by
    have rq := r.append q
    unfold pick
    rw [List.filterMap_cons, List.filterMap_cons]
    cases e : (ds ++ es)[i]? with
    | none =>
      have : (vs ++ zs)[i]? = none := by
        rw [List.getElem?_eq_none_iff] at e ⊢
        rw [← rq.length]; exact e
      rw [this]
      exact pick_rel r q idx
    | some d =>
      obtain ⟨v, hv, rv⟩ := rq.get e
      rw [hv]
      exact ⟨v, _, rfl, rv, pick_rel r q idx⟩
/-- named arguments, all given -/
theorem kwD_of {K : PySem.W.Frag} {x qual : Str} {st : Stmt} {f : Addr} {fd : FuncData} {ps ks : List Str} {n : Nat} (idx : List Nat) (F : Fun K x qual st f fd) (hi : ∀ i ∈ idx, i < n + ks.length) (hl : idx.length = ps.length)
    (h : ∀ (kV doc pm : Value) (an : Option Addr) (cdv ct : Value) (us ws : List Value), us.length = n → ws.length = ks.length → bindArgs (PySem.W.fnOf x qual (defArgs st) (defBody st) (defScope st) .none kV doc pm an cdv ct) ⟨us, ks.zip ws⟩ = pure (ps.zip (pick idx us ws))) :
    KwD K fd ps n ks (pick idx) (pick idx) (pick idx) := by
  obtain ⟨oc, od, kV, doc, pm, an, cdv, ct, osl, rfl, lk, hcd⟩ := F.ex
  refine ⟨⟨fun s us ws X l1 l2 => .of_eq (h kV doc pm an cdv ct us ws l1 l2), fun r q => pick_vals r q idx⟩, fun vs zs l1 l2 => ?_, fun r q => pick_rel r q idx⟩
  rw [pick_length fun i hm => by rw [l1, l2]; exact hi i hm, hl]
theorem pick_succ {α : Type} (v : α) (us ws : List α) : ∀ idx : List Nat, pick (0 :: idx.map (· + 1)) (v :: us) ws = v :: pick idx us ws := fun idx => by
  unfold pick
  rw [List.filterMap_cons]
  show v :: _ = _
  rw [List.filterMap_map]
  rfl
theorem kwM_of {K : PySem.W.Frag} {x qual : Str} {st : Stmt} {f : Addr} {fd : FuncData} {ps ks : List Str} {n : Nat} (idx : List Nat) (F : Fun K x qual st f fd) (hi : ∀ i ∈ idx, i < n + ks.length) (hl : idx.length + 1 = ps.length)
    (h : ∀ (kV doc pm : Value) (an : Option Addr) (cdv ct : Value) (us ws : List Value), us.length = n + 1 → ws.length = ks.length → bindArgs (PySem.W.fnOf x qual (defArgs st) (defBody st) (defScope st) .none kV doc pm an cdv ct) ⟨us, ks.zip ws⟩ = pure (ps.zip (pick (0 :: idx.map (· + 1)) us ws))) :
    KwM K fd ps n ks (pick idx) (pick (0 :: idx.map (· + 1))) (pick (0 :: idx.map (· + 1))) (pick idx) := by
  obtain ⟨oc, od, kV, doc, pm, an, cdv, ct, osl, rfl, lk, hcd⟩ := F.ex
  refine ⟨⟨fun s us ws X l1 l2 => .of_eq (h kV doc pm an cdv ct us ws l1 l2), fun r q => pick_vals r q _⟩, fun v vs zs => pick_succ v vs zs idx, fun vs zs l1 l2 => ?_, fun r q => pick_rel r q idx⟩
  rw [pick_length fun i hm => by rw [l1, l2]; exact hi i hm, hl]

section
variable {X : Cx} {C : Addr} {W : WX} {a b c e : Expr} {es : List Expr} {ma mb mc md : M D} {ms : M (List D)} {pos apos cpos p p2 : Pos} {i : Nat}
/-- -a -/
def negD : D → M D
  | .int i => ret (.int (-i))
  | _ => fail
theorem e_neg (ha : PE X a (tD (gx X C) W ma)) : PE X (.UnaryOp .USub a pos) (tD (gx X C) W (bnd ma negD)) := peImp (pe_un un_neg ha) fun σ H Q h => (lift1 (Ra := RD (gx X C)) h).imp fun x H1 ⟨B, F, env, d, p, r⟩ => by
  cases d with
  | int i => exact ⟨i, r, Pt.pure p (b := .int _) rfl⟩
  | _ => exact (Pt.no p).elim
/-- tuple(own) -/
def otupM (i : Nat) : M D := bnd (olist i) fun ds => ret (.tup ds)
theorem e_otup (hg : Gl X "tuple") (hm : X.mg "tuple" = none) (ha : PE X a (tVar i)) (na : starEach [a] X.env = (false, eval a X.env) :: starEach [] X.env := by rfl) (hpl : (backTo pos (starEach [] X.env)).any (·.1) = false := by rfl) :
    PE X (.Call (.Name "tuple" p) [a] [] pos) (tD (gx X C) W (otupM i)) :=
  peImp (pe_callTy DLt.call_tupF hg hm boot_tuple (pa_cons ha pa_nil na) (by decide) (by decide) na hpl) fun σ H Q ⟨B, F, env, h⟩ => by
    obtain ⟨q, ds, vs, e1, hv, rv, _, p3⟩ := h.olist
    exact ⟨_, e1, q, vs, rfl, .inl ⟨SqL.of hv, p3.tup rv⟩⟩
/-- tuple(range(a)), list(range(a)) -/
def smallN (j : Int) : Prop := -(2 ^ 62) ≤ j ∧ j ≤ 16777216
theorem rg_rp {G : Gx} {F : Addr → Prop} {H : Hp} (lo hi : Int) : RpL G F H (rangeL lo hi) (rgV lo hi) := by
  have e : rangeL lo hi = ((List.range (hi - lo).toNat).map fun i => lo + ((i : Nat) : Int)).map D.int := by unfold rangeL; rw [List.map_map]; rfl
  rw [e]
  refine RpL.ints.mpr ?_
  unfold rgV
  rw [List.map_map]; rfl
def tRgM (ma : M D) : M D := bnd ma fun d => match d with
  | .int j => ask (smallN j) (ret (.tup (rangeL 0 j)))
  | _ => fail
theorem rgOk_small {j : Int} (h : smallN j) : RgOk 0 j := by
  obtain ⟨h1, h2⟩ := h
  exact ⟨by decide, by decide, h1, by omega, by omega⟩
theorem e_tRg (calm : X.calm = true) (hg : Gl X "tuple") (hm : X.mg "tuple" = none) (hg2 : Gl X "range") (hm2 : X.mg "range" = none) (ha : PE X a (tD (gx X C) W ma)) (na : starEach [a] X.env = (false, eval a X.env) :: starEach [] X.env := by rfl)
    (na2 : starEach [.Call (.Name "range" p2) [a] [] apos] X.env = (false, eval (.Call (.Name "range" p2) [a] [] apos) X.env) :: starEach [] X.env := by rfl) : PE X (.Call (.Name "tuple" p) [.Call (.Name "range" p2) [a] [] apos] [] pos) (tD (gx X C) W (tRgM ma)) :=
  peImp (DLt.pf_tupRg calm hg hm (prg_1 hg2 hm2 ha na) na2) fun σ H Q h => (lift1 (Ra := RD (gx X C)) h).imp fun x H1 ⟨B, F, env, d, p, r⟩ => by
    cases d with
    | int j => exact ⟨j, r, rgOk_small (Pt.asked p).1, (Pt.asked p).2.tup (rg_rp 0 j)⟩
    | _ => exact (Pt.no p).elim
def lRgM (ma : M D) : M O := bnd ma fun d => match d with
  | .int j => ask (smallN j) (ret (.lst (rangeL 0 j)))
  | _ => fail
theorem o_lRg (calm : X.calm = true) (hg : Gl X "list") (hm : X.mg "list" = none) (hg2 : Gl X "range") (hm2 : X.mg "range" = none) (ha : PE X a (tD (gx X C) W ma)) (na : starEach [a] X.env = (false, eval a X.env) :: starEach [] X.env := by rfl)
    (na2 : starEach [.Call (.Name "range" p2) [a] [] apos] X.env = (false, eval (.Call (.Name "range" p2) [a] [] apos) X.env) :: starEach [] X.env := by rfl) : PE X (.Call (.Name "list" p) [.Call (.Name "range" p2) [a] [] apos] [] pos) (tO (gx X C) W (lRgM ma)) :=
  peImp (pe_listRg calm hg hm (prg_1 hg2 hm2 ha na) na2) fun σ H Q h => (lift1 (Ra := RD (gx X C)) h).imp fun x H1 ⟨B, F, env, d, p, r⟩ => by
    cases d with
    | int j => exact ⟨j, r, rgOk_small (Pt.asked p).1, fun q hq => (Pt.asked p).2.olst (rg_rp 0 j) hq⟩
    | _ => exact (Pt.no p).elim
/-- an own name read as a datum: nobody writes it from here on -/
def frzV (i : Nat) : M D := fun env Q _ => match env[i]? with
  | some (.ow (.lst ds)) => Q (.lst ds) (env.set i (.im (.lst ds)))
  | some (.im d) => Q d env
  | _ => False
theorem e_frv (ha : PE X a (tVar i)) : PE X a (tD (gx X C) W (frzV i)) := peImp ha fun σ H Q ⟨B, F, env, Qd, Ed, rel, hm, hq, he⟩ => by
  unfold frzV at hm
  cases q : env[i]? with
  | none => rw [q] at hm; exact hm.elim
  | some s =>
    rw [q] at hm
    cases s with
    | im d => obtain ⟨v, h1, h2⟩ := rel.sl i _ q; exact ⟨v, h1, hq d env v F H hm Stp.refl rel h2⟩
    | ow o =>
      cases o with
      | lst ds =>
        obtain ⟨a, e1, nF, nB, ⟨vs, hv, rv⟩, own⟩ := rel.owned (.inl q)
        have st : Stp B F H (fun b => F b ∨ b = a) H := ⟨fun _ z => .inl z, fun b z => z.imp id fun w => by rw [w]; exact nB, fun b u z e _ => e, fun _ _ z => z, fun t => t.ext (fun _ z => .inl z) fun _ _ z => z⟩
        have rd : Rp (gx X C) (fun b => F b ∨ b = a) H (.lst ds) (.ref a) := ⟨a, vs, rfl, .inr rfl, hv, RpL.mono st _ _ rv⟩
        refine ⟨_, e1, hq (.lst ds) _ (.ref a) _ H hm st ?_ rd⟩
        have hlt : i < env.length := (List.getElem?_eq_some_iff.mp q).1
        refine ⟨by rw [List.length_set]; exact rel.len, fun j t e' => ?_, fun j k b h1 h2 => ?_, rel.hB, fun b z => z.elim (rel.hF b) fun w => by rw [w]; exact Nt.of hv, st.tb rel.tb⟩
        · by_cases hj : j = i
          · subst hj
            rw [List.getElem?_set_self hlt] at e'
            cases e'
            exact ⟨_, e1, rd⟩
          · rw [List.getElem?_set_ne (Ne.symm hj)] at e'
            have w := rel.sl j t e'
            cases t with
            | no => trivial
            | im d => obtain ⟨v, h1, h2⟩ := w; exact ⟨v, h1, Rp.mono st d v h2⟩
            | ow o => obtain ⟨b, h1, h2, h3, h4⟩ := w; exact ⟨b, h1, fun z => z.elim h2 fun y => by subst y; exact hj (rel.ap j i b ⟨⟨_, e', rfl⟩, h1⟩ own), h3, OwAt.mono st rfl h4⟩
            | io b o => obtain ⟨h1, h2, h3, h4⟩ := w; exact ⟨h1, fun z => z.elim h2 fun y => by subst y; exact hj (rel.ap j i b ⟨⟨_, e', rfl⟩, h1⟩ own), h3, OwAt.mono st rfl h4⟩
        · have back : ∀ m, OwnAt (env.set i (.im (.lst ds))) σ m b → OwnAt env σ m b := fun m ⟨⟨t, e1, k1⟩, e2⟩ => by
            by_cases hm : m = i
            · subst hm
              rw [List.getElem?_set_self hlt] at e1
              cases e1; cases k1
            · rw [List.getElem?_set_ne (Ne.symm hm)] at e1
              exact ⟨⟨t, e1, k1⟩, e2⟩
          exact rel.ap j k b (back j h1) (back k h2)
      | _ => exact hm.elim
    | _ => exact hm.elim
/-- a global constant, a built-in type -/
theorem e_gc {x : Str} {d : D} {v : V} (hg : Gl X x) (h : ∃ u, X.mg x = some u ∧ RelV v u) (r : ∀ F H, Rp (gx X C) F H d v) (hd : (x == ("__debug__" : Str)) = false := by decide) : PE X (.Name x pos) (tD (gx X C) W (ret d)) := by
  obtain ⟨u, h1, h2⟩ := h
  exact e_glob (x := x) (pe_glob hg h1 h2 hd) r
/-- name = [.. for ..], never written: a datum -/
theorem s_setLcD {tg iter elt : Expr} {ifs : List Expr} {is : List Nat} {scope : Scope} {own : List (Str × Nat)} {mt : M Bool} {y : Str} {py spos : Pos} {k : D → M Unit} (hc : X.calm = true) (hN : X.N.Nodup) (hy : X.N[i]? = some y) (hyl : X.env.scope.names.lookup y = some .local) (hsw : swapsWith (.ListComp elt [⟨tg, iter, ifs, 0⟩] scope pos) (some (.Name y py)) spos.line X.env = pure true)
    (hi : PI X tg iter (tI (gx X C) W ms)) (ok : BlkOk X.N X.env.scope scope own) (hsub : ∀ i ∈ is, i ∈ own.map (·.2)) (nox : ∀ d env Q E, k d env Q E → k d env Q (fun _ _ => False))
    (hg : ∀ (s : Shared) (H : Hp) (c : Addr) (cl : List (Str × Addr)) (fp : List Addr), PG (X.blk s H scope (compEnvC scope cl c X.env) fp) tg (tTo (gx X C) is k)) (ht : ∀ (s : Shared) (H : Hp) (c : Addr) (cl : List (Str × Addr)) (fp : List Addr), PTs (X.blk s H scope (compEnvC scope cl c X.env) fp) ifs (tBl (gx X C) W0 mt))
    (he : ∀ (s : Shared) (H : Hp) (c : Addr) (cl : List (Str × Addr)) (fp : List Addr), PE (X.blk s H scope (compEnvC scope cl c X.env) fp) elt (tD (gx X C) W0 md)) (hs : ∀ x, foldedSetIterable iter X.env x = pure x := by intro _; rfl) :
    PS X (.Assign [.Name y py] (.ListComp elt [⟨tg, iter, ifs, 0⟩] scope pos) spos) (tS (gx X C) W (thenN (bnd (frzM (compM ms k (own.map (·.2)) mt md)) (setI i)))) :=
  psImp (ps_setLc hc hN hy hyl hsw hi ok hg ht he hs) fun Z σ H ⟨B, F, env, h⟩ => by
    refine comp_reads hsub nox ?_
    have h : Ps (gx X C) W (bnd (compM ms k (own.map (·.2)) mt md) fun o => bnd ((fun o => match o with | .lst ds => ret (D.lst ds) | _ => fail : O → M D) o) fun d => bnd (setI i d) fun _ => ret .nx) Z σ H B F env := h
    refine (h.bind (Ra := RO (gx X C)) (as := []) (xs := [])).imp fun y H1 ⟨F1, env1, o, ⟨Qd, Ed, rel, hm, h1, h2, h3, h4, h5⟩, a, ea, hF, hB, ho, hn⟩ => ?_
    subst ea
    cases o with
    | lst ds =>
      have hm : setI i (.lst ds) env1 (fun _ env' => Qd .nx env') Ed := hm
      obtain ⟨vs, e1, r1⟩ := ho
      have st : Stp B F1 H1 (fun b => F1 b ∨ b = a) H1 := ⟨fun _ z => .inl z, fun b z => z.imp id fun w => by rw [w]; exact hB, fun b u z e _ => e, fun _ _ z => z, fun t => t.ext (fun _ z => .inl z) fun _ _ z => z⟩
      have rel' : Rel (gx X C) B (fun b => F1 b ∨ b = a) σ env1 H1 := rel.step st (fun i b z => ⟨rfl, fun w => w.elim (rel.ownSome z).2.1 fun w => by subst w; exact hn i z⟩) fun b z => z.elim (rel.hF b) fun w => by rw [w]; exact Nt.of e1
      exact h1 _ _ _ H1 (setI_spec hm) st (rel'.setI (d := .lst ds) ⟨a, vs, rfl, .inr rfl, e1, RpL.mono st ds vs r1⟩)
    | _ => exact (show False from hm).elim
end
end DL

set_option Elab.async false
set_option linter.all false
set_option maxRecDepth 100000
set_option maxHeartbeats 2000000
/-! Own dicts: by a comprehension, looked up; a Hall with its default. -/
namespace DL
open PySem PySem.Spec PyProof.Rows L2
variable [Tbs]

def keyD : D → M Key
  | .int i => ret (.inl i)
  | .str s => ret (.inr s)
  | _ => fail
def putD (kvs : List (Key × D)) (k : Key) (v : D) : List (Key × D) :=
  if (kvs.any fun kv => decide (kv.1 = k)) = true then kvs.map (fun kv => if kv.1 = k then (kv.1, v) else kv) else kvs ++ [(k, v)]
def valD (kvs : List (Key × D)) (k : Key) : Option D := (kvs.find? fun kv => decide (kv.1 = k)).map (·.2)
section
variable {G : Gx} {W : WX} {B F : Addr → Prop} {σ : L2.St} {H : Hp} {env : List Slot} {α β γ δ : Type}
variable {R : (Addr → Prop) → (Addr → Prop) → List Slot → L2.St → Hp → γ → δ → Prop} {Q : δ → Hp → Prop} {i : Nat} {a : Addr} {o o' : O}
theorem KvR.length : ∀ {kvs : List (Key × D)} {l : List (Key × V)}, KvR G F H kvs l → kvs.length = l.length
  | [], _, h => by cases (show _ = _ from h); rfl
  | (k, d) :: r, _, ⟨v, l', e, h1, h2⟩ => by subst e; simp [KvR.length h2]
theorem KvR.any : ∀ {kvs : List (Key × D)} {l : List (Key × V)} (k : Key), KvR G F H kvs l → (kvs.any fun kv => decide (kv.1 = k)) = (l.any fun kv => decide (kv.1 = k))
  | [], _, k, h => by cases (show _ = _ from h); rfl
  | (k', d) :: r, _, k, ⟨v, l', e, h1, h2⟩ => by subst e; rw [List.any_cons, List.any_cons, KvR.any k h2]
theorem KvR.append : ∀ {kvs ks : List (Key × D)} {l m : List (Key × V)}, KvR G F H kvs l → KvR G F H ks m → KvR G F H (kvs ++ ks) (l ++ m)
  | [], _, _, _, h, h' => by cases (show _ = _ from h); exact h'
  | (k, d) :: r, _, _, _, ⟨v, l', e, h1, h2⟩, h' => by subst e; exact ⟨v, _, rfl, h1, KvR.append h2 h'⟩
theorem KvR.setAt : ∀ {kvs : List (Key × D)} {l : List (Key × V)} {k : Key} {d : D} {v : V}, KvR G F H kvs l → Rp G F H d v → KvR G F H (kvs.map fun kv => if kv.1 = k then (kv.1, d) else kv) (l.map fun kv => if kv.1 = k then (kv.1, v) else kv)
  | [], _, _, _, _, h, _ => by cases (show _ = _ from h); exact rfl
  | (k', d') :: r, _, k, d, v, ⟨v', l', e, h1, h2⟩, q => by
    subst e
    rw [List.map_cons, List.map_cons]
    by_cases z : k' = k
    · rw [if_pos z, if_pos z]; exact ⟨v, _, rfl, q, KvR.setAt h2 q⟩
    · rw [if_neg z, if_neg z]; exact ⟨v', _, rfl, h1, KvR.setAt h2 q⟩
theorem KvR.put {kvs : List (Key × D)} {l : List (Key × V)} {k : Key} {d : D} {v : V} (h : KvR G F H kvs l) (q : Rp G F H d v) : KvR G F H (putD kvs k d) (putK l k v) := by
  unfold putD putK
  rw [h.any k]
  split
  · exact h.setAt q
  · exact h.append ⟨v, [], rfl, q, rfl⟩
theorem KvR.val : ∀ {kvs : List (Key × D)} {l : List (Key × V)} (k : Key), KvR G F H kvs l → match valD kvs k with
    | some d => ∃ v, valV l k = some v ∧ Rp G F H d v
    | none => valV l k = none
  | [], _, k, h => by cases (show _ = _ from h); rfl
  | (k', d') :: r, _, k, ⟨v', l', e, h1, h2⟩ => by
    subst e
    by_cases z : k' = k
    · have e1 : valD ((k', d') :: r) k = some d' := by unfold valD; rw [List.find?_cons, decide_eq_true z]; rfl
      rw [e1]
      exact ⟨v', valV_pos z, h1⟩
    · have e1 : valD ((k', d') :: r) k = valD r k := by unfold valD; rw [List.find?_cons, decide_eq_false z]
      rw [e1, valV_neg (p := (k', v')) z]
      exact KvR.val k h2
def asDi : O → M (List (Key × D))
  | .dic kvs => ret kvs
  | _ => fail
def odic (i : Nat) : M (List (Key × D)) := bnd (getO i) asDi
theorem Pt.odic {k : List (Key × D) → M γ} (h : Pt G W R σ H Q (bnd (DL.odic i) k) B F env) : ∃ a kvs l, σ[i]? = some (some (.ref a)) ∧ H a = some (.dK l) ∧ KvR G F H kvs l ∧ OwnAt env σ i a ∧ Pt G W R σ H Q (k kvs) B F env := by
  have h : Pt G W R σ H Q (bnd (DL.getO i) fun o => bnd (asDi o) k) B F env := h
  obtain ⟨a, o, e1, e2, e3, p⟩ := h.getO
  cases o with
  | dic kvs => obtain ⟨vs, h1, h2⟩ := e2; exact ⟨a, kvs, vs, e1, h1, h2, e3, p⟩
  | _ => exact (Pt.unknown p).elim
theorem Pt.keyD {d : D} {v : V} {k : Key → M γ} (h : Pt G W R σ H Q (bnd (DL.keyD d) k) B F env) (r : Rp G F H d v) : ∃ j, v = kV j ∧ DL.keyD d = ret j ∧ Pt G W R σ H Q (k j) B F env := by
  cases d with
  | int i => exact ⟨.inl i, r, rfl, h⟩
  | str s => exact ⟨.inr s, r, rfl, h⟩
  | _ => exact (Pt.unknown h).elim
end
section
variable {X : Cx} {C : Addr} {W : WX} {a b c : Expr} {es : List Expr} {ma mb mc : M D} {ms : M (List D)} {pos apos cpos p : Pos} {i : Nat}
def atD (kvs : List (Key × D)) (k : Key) : M D := match valD kvs k with
  | some d => ret d
  | none => fail
/-- own[b] of a dict -/
def odixM (i : Nat) (mb : M D) : M D := bnd (odic i) fun _ => bnd mb fun d => bnd (odic i) fun kvs => bnd (keyD d) (atD kvs)
theorem e_odix (hu : X.A.units + 64 < cLine) (ha : PE X a (tVar i)) (hb : PE X b (tD (gx X C) W mb)) (hs : NoSl b := by exact fun _ _ => rfl) : PE X (.Subscript a b pos) (tD (gx X C) W (odixM i mb)) :=
  peImp (pe_dget (by omega) ha hb hs) fun σ H Q ⟨B, F, env, h⟩ => by
    obtain ⟨q, _, _, e1, _, _, _, h⟩ := Pt.odic h
    refine ⟨_, e1, (h.bind (Ra := RD (gx X C)) (as := []) (xs := []) rfl).imp fun y H2 ⟨F2, env2, d, p2, _, r2⟩ => ?_⟩
    obtain ⟨q', kvs, l, e1', hv, rv, _, p3⟩ := p2.odic
    rw [e1] at e1'
    cases e1'
    obtain ⟨j, ej, _, p4⟩ := p3.keyD r2
    have z := rv.val j
    unfold atD at p4
    cases w : valD kvs j with
    | none => simp only [w] at p4; exact (Pt.no p4).elim
    | some d =>
      simp only [w] at p4 z
      obtain ⟨v, hv', rv'⟩ := z
      refine ⟨q, v, rfl, ?_, p4.pure rv'⟩
      rw [ej, ← hv']
      exact DGet.k hv
/-- k in own dict -/
def odinM (neg : Bool) (ma : M D) (i : Nat) : M D := bnd (getO i) fun _ => bnd ma fun d => bnd (odic i) fun kvs => bnd (keyD d) fun k => ret (.bl (if neg then !(valD kvs k).isSome else (valD kvs k).isSome))
theorem odin_reads {neg : Bool} {σ : L2.St} {H : Hp} {Q : V → Hp → Prop} (h : Lift (gx X C) W (RD (gx X C)) (odinM neg ma i) σ H Q) :
    tD (gx X C) W ma σ H fun y H1 => tVar i σ H1 fun x H2 => ∃ a o, x = .ref a ∧ DGet H2 a y o ∧ Q (.bl (if neg then !o.isSome else o.isSome)) H2 := by
  obtain ⟨B, F, env, h⟩ := h
  obtain ⟨q, _, e1, _, e3, h⟩ := Pt.getO h
  refine (h.bind (Ra := RD (gx X C)) (as := []) (xs := []) rfl).imp fun y H2 ⟨F2, env2, d, p2, _, r2⟩ => ?_
  obtain ⟨q', kvs, l, e1', hv, rv, _, p3⟩ := p2.odic
  obtain ⟨j, ej, _, p4⟩ := p3.keyD r2
  have z := rv.val j
  have e : (valV l j).isSome = (valD kvs j).isSome := by
    cases w : valD kvs j with
    | none => simp only [w] at z; rw [z]; rfl
    | some d => simp only [w] at z; obtain ⟨v, hv', _⟩ := z; rw [hv']; rfl
  refine ⟨_, e1', q', valV l j, rfl, by rw [ej]; exact DGet.k hv, ?_⟩
  rw [e]
  exact p4.pure (b := .bl _) rfl
theorem e_odin (hu : X.A.units + 64 < cLine) (ha : PE X a (tD (gx X C) W ma)) (hb : PE X b (tVar i)) (hm : behindInMarks .In b = false) : PE X (.Compare a [.In] [b] pos) (tD (gx X C) W (odinM false ma i)) :=
  peImp (pe_cmp (pc_din (by omega) ha hb) hm) fun σ H Q h => odin_reads h
theorem e_odnin (hu : X.A.units + 64 < cLine) (ha : PE X a (tD (gx X C) W ma)) (hb : PE X b (tVar i)) (hm : behindInMarks .NotIn b = false) : PE X (.Compare a [.NotIn] [b] pos) (tD (gx X C) W (odinM true ma i)) :=
  peImp (pe_cmp (pc_dnotin (by omega) ha hb) hm) fun σ H Q h => odin_reads h
theorem t_odin (hu : X.A.units + 64 < cLine) (ha : PE X a (tD (gx X C) W ma)) (hb : PE X b (tVar i)) (hm : behindInMarks .In b = false) : PT X (.Compare a [.In] [b] pos) (tBl (gx X C) W (bnd (odinM false ma i) asB)) :=
  ptImp (pt_cmp (pc_din (by omega) ha hb) hm) fun σ H Q h => odin_reads (bnd_asB h)
theorem t_odnin (hu : X.A.units + 64 < cLine) (ha : PE X a (tD (gx X C) W ma)) (hb : PE X b (tVar i)) (hm : behindInMarks .NotIn b = false) : PT X (.Compare a [.NotIn] [b] pos) (tBl (gx X C) W (bnd (odinM true ma i) asB)) :=
  ptImp (pt_cmp (pc_dnotin (by omega) ha hb) hm) fun σ H Q h => odin_reads (bnd_asB h)
end
/-! ### {k: v for ..} -/
def compLD (tg : D → M Unit) (vs : List Nat) (cond : M Bool) (kx vx : M D) : List D → List (Key × D) → M (List (Key × D))
  | [], acc => ret acc
  | d :: ds, acc => fun env Q E => bnd (tg d) (fun _ => bnd cond fun c => if c = true then bnd kx fun y => bnd vx fun z => bnd (keyD y) fun k => ask (acc.length < sizeLine) (compLD tg vs cond kx vx ds (putD acc k z)) else compLD tg vs cond kx vx ds acc) (wipeE env vs) Q E
def compMD (items : M (List D)) (tg : D → M Unit) (vs : List Nat) (cond : M Bool) (kx vx : M D) : M O := fun env Q E =>
  items env (fun ds env1 => compLD tg vs cond kx vx ds [] env1 (fun acc env2 => Q (.dic acc) (backE env1 env2 vs)) fun _ _ => False) E
section
variable {X : Cx} {C : Addr} {W : WX} {tg iter kx vx : Expr} {ifs : List Expr} {is : List Nat} {scope : Scope} {own : List (Str × Nat)} {pos : Pos} {ms : M (List D)} {mt : M Bool} {mk mv : M D}
theorem comp_readsD {k : D → M Unit} {σ : L2.St} {H : Hp} {Q : V → Hp → Prop} (hsub : ∀ i ∈ is, i ∈ own.map (·.2)) (nox : ∀ d env Q E, k d env Q E → k d env Q (fun _ _ => False))
    (h : tO (gx X C) W (compMD ms k (own.map (·.2)) mt mk mv) σ H Q) : tDc (tI (gx X C) W ms) (tTo (gx X C) is k) (tBl (gx X C) W0 mt) (tD (gx X C) W0 mk) (tD (gx X C) W0 mv) (own.map (·.2)) σ H Q := by
  generalize own.map (·.2) = vs at hsub h
  obtain ⟨B, F, env, Qd, Ed, rel, hm, hq, he⟩ := h
  refine ⟨B, F, env, _, Ed, rel, hm, fun ds env1 J F1 H1 hc st1 rel1 it D hD => ?_, fun x env' cls d F' H' q st rl r => he x env' cls d F' H' q st rl r⟩
  have nB : ¬ B D := rel1.notB hD
  have nF : ¬ F1 D := rel1.notF hD
  refine ⟨fun i m H2 => m = ds.length - i ∧ i ≤ ds.length ∧ ∃ F2 σ2 env2 accD acc, H2 D = some (.dK acc) ∧ KvR (gx X C) F2 H2 accD acc ∧ Rel (gx X C) (fun a => B a ∨ a = D) F2 σ2 env2 H2 ∧ wipe σ2 vs = wipe σ vs ∧ Stp B F1 H1 F2 H2 ∧ ¬ F2 D ∧
    compLD k vs mt mk mv (ds.drop i) accD env2 (fun acc env2 => Qd (.dic acc) (backE env1 env2 vs)) (fun _ _ => False),
    ⟨_, rfl, Nat.zero_le _, F1, σ, env1, [], [], upd_same, rfl, (rel1.new hD).more (Nt.of upd_same) (fun i o => (rel1.ownSome o).1 hD), rfl, stp_new hD, nF, hc⟩, ?_⟩
  rintro i m H2 ⟨rfl, hi, F2, σ2, env2, accD, acc, eD, racc, rel2, hw, st2, nF2, hc2⟩
  have stB : ∀ {F3 H3}, Stp (fun a => B a ∨ a = D) F2 H2 F3 H3 → Stp B F2 H2 F3 H3 := fun s => s.less fun _ z => .inl z
  obtain ⟨go, stop⟩ := it F2 H2 st2 i
  by_cases hl : i < ds.length
  · obtain ⟨g1, g2⟩ := go ds[i] (List.getElem?_eq_getElem hl)
    refine .inr ⟨g1, fun H' => i + 1 ≤ ds.length ∧ ∃ F2 σ2 env2 accD acc, H' D = some (.dK acc) ∧ KvR (gx X C) F2 H' accD acc ∧ Rel (gx X C) (fun a => B a ∨ a = D) F2 σ2 env2 H' ∧ wipe σ2 vs = wipe σ vs ∧ Stp B F1 H1 F2 H' ∧ ¬ F2 D ∧
      compLD k vs mt mk mv (ds.drop (i + 1)) accD env2 (fun acc env2 => Qd (.dic acc) (backE env1 env2 vs)) (fun _ _ => False), fun H' ⟨a, b⟩ => ⟨_, by omega, rfl, a, b⟩, fun x H3 y => ?_⟩
    obtain ⟨st3, kp, rx⟩ := g2 x H3 y
    have st3' : Stp (fun a => B a ∨ a = D) F2 H2 F2 H3 := stp_keep kp
    have rel3 : Rel (gx X C) (fun a => B a ∨ a = D) F2 (wipe σ vs) (wipeE env2 vs) H3 := by
      rw [← hw]
      refine (rel2.step st3' (fun j a o => ⟨?_, (rel2.ownSome o).2.1⟩) fun a z => st3'.hs a (.inr z) (rel2.hF a z)).wipe vs
      obtain ⟨n, _, _⟩ := rel2.ownSome o
      cases e : H2 a with
      | none => exact absurd e n
      | some u => exact kp a u e
    have hc3 : compLD k vs mt mk mv (ds[i] :: ds.drop (i + 1)) accD env2 (fun acc env2 => Qd (.dic acc) (backE env1 env2 vs)) (fun _ _ => False) := by
      rw [← List.drop_eq_getElem_cons hl]; exact hc2
    have racc3 : KvR (gx X C) F2 H3 accD acc := KvR.mono st3 _ _ racc
    refine ⟨fun a => B a ∨ a = D, F2, _, ds[i], _, rel3, rx, nox _ _ _ _ hc3, fun env4 σ4 q4 rel4 hl4 ho4 => ?_⟩
    have hw4 : wipe σ4 vs = wipe σ vs := (wipe_eq hl4 fun j hj => ho4 j fun z => hj (hsub j z)).trans wipe_wipe
    refine ⟨hw4, fun a => B a ∨ a = D, F2, env4, _, _, rel4, q4, fun c env5 b F5 H5 q5 st5 rel5 rb => ?_, fun x env' cls d F' H' q st rl r => (show False from q).elim⟩
    cases (show c = b from rb)
    have hD5 : H5 D = some (.dK acc) := st5.hk D _ (.inl (.inr rfl)) (kp D _ eD)
    have nF5 : ¬ F5 D := fun z => (st5.fn D z).elim nF2 fun n => n (.inr rfl)
    have racc5 : KvR (gx X C) F5 H5 accD acc := KvR.mono st5 _ _ racc3
    have sAll : Stp B F1 H1 F5 H5 := st2.trans (st3.trans (st5.less fun _ z => .inl z))
    cases c with
    | false =>
      rw [if_neg Bool.false_ne_true] at q5 ⊢
      exact ⟨hl, F5, σ4, env5, accD, acc, hD5, racc5, rel5, hw4, sAll, nF5, q5⟩
    | true =>
      rw [if_pos rfl] at q5 ⊢
      refine ⟨fun a => B a ∨ a = D, F5, env5, _, _, rel5, q5, fun yd env6 yv F6 H6 q6 st6 rel6 ry => ?_, fun x env' cls d F' H' q st rl r => (show False from q).elim⟩
      refine ⟨fun a => B a ∨ a = D, F6, env6, _, _, rel6, q6, fun zd env7 zv F7 H7 q7 st7 rel7 rz => ?_, fun x env' cls d F' H' q st rl r => (show False from q).elim⟩
      have ry7 : Rp (gx X C) F7 H7 yd yv := Rp.mono st7 _ _ ry
      have hk : ∃ j, yv = kV j ∧ ask (accD.length < sizeLine) (compLD k vs mt mk mv (ds.drop (i + 1)) (putD accD j zd)) env7 (fun acc env2 => Qd (.dic acc) (backE env1 env2 vs)) (fun _ _ => False) := by
        cases yd with
        | int n => exact ⟨.inl n, ry7, q7⟩
        | str s => exact ⟨.inr s, ry7, q7⟩
        | _ => exact (show False from q7).elim
      obtain ⟨j, ej, lz, q7⟩ := hk
      have st67 := st6.trans st7
      have hD7 : H7 D = some (.dK acc) := st67.hk D _ (.inl (.inr rfl)) hD5
      have nF7 : ¬ F7 D := fun z => (st67.fn D z).elim nF5 fun n => n (.inr rfl)
      have racc7 : KvR (gx X C) F7 H7 accD acc := KvR.mono st67 _ _ racc5
      have stw : Stp B F7 H7 F7 (upd H7 D (.dK (putK acc j zv))) := stp_own nF7 nB (fun vs h => by rcases h with h | ⟨o, h⟩ <;> (rw [hD7] at h; cases h)) (fun ps z => by rw [hD7] at z; cases z) fun q z => by rw [hD7] at z; have z2 : _ = HO.ext _ := Option.some.inj z; cases z2
      refine ⟨acc, j, ej, hD7, by rw [← racc7.length]; exact lz, hl, F7, σ4, env7, putD accD j zd, putK acc j zv, upd_same, (KvR.mono stw _ _ racc7).put (Rp.mono stw _ _ rz), ?_, hw4, (sAll.trans (st67.less fun _ z => .inl z)).trans stw, nF7, q7⟩
      refine (Rel.more ((rel7.less fun _ z => .inl z).step stw (fun j a o => ⟨upd_ne fun z => by subst z; exact (rel7.ownSome o).2.2 (.inr rfl), (rel7.ownSome o).2.1⟩) fun a z => stw.hs a (.inr z) (rel7.hF a z)) (Nt.of upd_same) fun j o => (rel7.ownSome o).2.2 (.inr rfl))
  · have e : i = ds.length := by omega
    subst e
    rw [List.drop_length] at hc2
    refine .inl ⟨stop (Nat.le_refl _), ?_⟩
    have rel2' : Rel (gx X C) B F2 σ2 env2 H2 := rel2.less fun _ z => .inl z
    refine hq (.dic accD) (backE env1 env2 vs) (.ref D) F2 H2 hc2 (st1.trans st2) (rel1.back st2 rel2' hw) ⟨D, rfl, nF2, nB, ⟨acc, eD, racc⟩, fun j ⟨⟨s, e, o⟩, es⟩ => ?_⟩
    by_cases hj : j ∈ vs
    · have q := backE_in hj e
      subst q
      unfold oldS at o
      cases z : env1[j]? with
      | none => rw [z] at o; cases o
      | some s => rw [z] at o; cases s <;> cases o
    · rw [backE_out hj] at e
      exact (rel2.ownSome ⟨⟨s, e, o⟩, by rw [wipe_same hw hj]; exact es⟩).2.2 (.inr rfl)
theorem o_dc {k : D → M Unit} (hc : X.calm = true) (hN : X.N.Nodup) (hi : PI X tg iter (tI (gx X C) W ms)) (ok : BlkOk X.N X.env.scope scope own) (hsub : ∀ i ∈ is, i ∈ own.map (·.2)) (nox : ∀ d env Q E, k d env Q E → k d env Q (fun _ _ => False))
    (hg : ∀ (s : Shared) (H : Hp) (c : Addr) (cl : List (Str × Addr)) (fp : List Addr), PG (X.blk s H scope (compEnvC scope cl c X.env) fp) tg (tTo (gx X C) is k)) (ht : ∀ (s : Shared) (H : Hp) (c : Addr) (cl : List (Str × Addr)) (fp : List Addr), PTs (X.blk s H scope (compEnvC scope cl c X.env) fp) ifs (tBl (gx X C) W0 mt))
    (hk : ∀ (s : Shared) (H : Hp) (c : Addr) (cl : List (Str × Addr)) (fp : List Addr), PE (X.blk s H scope (compEnvC scope cl c X.env) fp) kx (tD (gx X C) W0 mk))
    (he : ∀ (s : Shared) (H : Hp) (c : Addr) (cl : List (Str × Addr)) (fp : List Addr), PE (X.blk s H scope (compEnvC scope cl c X.env) fp) vx (tD (gx X C) W0 mv)) (hs : ∀ x, foldedSetIterable iter X.env x = pure x := by intro _; rfl) :
    PE X (.DictComp kx vx [⟨tg, iter, ifs, 0⟩] scope pos) (tO (gx X C) W (compMD ms k (own.map (·.2)) mt mk mv)) := peImp (pe_dc hc hN hi ok hg ht hk he hs) fun σ H Q h => comp_readsD hsub nox h
theorem ps_setDc {i : Nat} {y : Str} {py spos : Pos} {wi : TI} {g : TG} {tt : TT} {tk tv : TE} (hc : X.calm = true) (hN : X.N.Nodup) (hy : X.N[i]? = some y) (hyl : X.env.scope.names.lookup y = some .local)
    (hsw : swapsWith (.DictComp kx vx [⟨tg, iter, ifs, 0⟩] scope pos) (some (.Name y py)) spos.line X.env = pure true) (hi : PI X tg iter wi) (ok : BlkOk X.N X.env.scope scope own)
    (hg : ∀ (s : Shared) (H : Hp) (C : Addr) (cl : List (Str × Addr)) (fp : List Addr), PG (X.blk s H scope (compEnvC scope cl C X.env) fp) tg g) (ht : ∀ (s : Shared) (H : Hp) (C : Addr) (cl : List (Str × Addr)) (fp : List Addr), PTs (X.blk s H scope (compEnvC scope cl C X.env) fp) ifs tt)
    (hk : ∀ (s : Shared) (H : Hp) (C : Addr) (cl : List (Str × Addr)) (fp : List Addr), PE (X.blk s H scope (compEnvC scope cl C X.env) fp) kx tk)
    (he : ∀ (s : Shared) (H : Hp) (C : Addr) (cl : List (Str × Addr)) (fp : List Addr), PE (X.blk s H scope (compEnvC scope cl C X.env) fp) vx tv) (hs : ∀ x, foldedSetIterable iter X.env x = pure x) :
    PS X (.Assign [.Name y py] (.DictComp kx vx [⟨tg, iter, ifs, 0⟩] scope pos) spos) (tAsg (tDc wi g tt tk tv (own.map (·.2))) (gName i)) := by
  refine ⟨fun pins s σ H D I h => ?_⟩
  rw [exec_Assign_Name_used _ _ _ _ hsw]
  refine wpAny_bind (wpAny_standAt (wpAny_bind ?_))
  show wpAny _ X.A (do let _ ← comprehension (.DictComp kx vx [⟨tg, iter, ifs, 0⟩] scope pos) scope X.env (firstIterPos [⟨tg, iter, ifs, 0⟩] pos) newDict false (eval iter X.env) (some (assign (.Name y py) X.env))) _ _ s
  have h : tDc wi g tt tk tv (own.map (·.2)) σ H (fun x H1 => gName i x σ H1 D.nx) := h
  refine wpAny_bind (thn (dc_core (Qf := fun _ s' => SP X pins D .next s') hc hN I hi ok hg ht hk he hs h fun L C s' m H' I' q hn f => ?_) fun _ s' hq => wpAny_pure (wpAny_pure hq))
  show wpAny _ _ (assign (.Name y py) X.env (.ref L)) _ _ _
  refine wpAny_assign_Name (store_ok2 (v := V.ref L) I' hN hy (.inl hyl) rfl (fun s2 I2 ⟨a, sb, ha⟩ => ?_) (.inr hyl))
  obtain ⟨f0, f1, f2, f3, f4, f5⟩ := f
  have haC : C ≠ a := by
    rcases ha with z | z
    · rw [z]; exact f1
    · exact fun e => f4 y a z e.symm
  refine ⟨m, hn.sameBut sb haC, fun h3 sb3 => ?_⟩
  exact ⟨_, H', I2.turned (t' := s2.toks) (fun b o hb e => (sb3.2 b hb).trans e) f0 f1 f3 f4 f5, q⟩
theorem sw_trueD {gs : List Comprehension} {scope : Scope} {pos py : Pos} {y : Str} {l : Nat} {env : Env} (hk : env.scope.kind = .function) (hy : env.scope.names.lookup y = some .local) (hl : (py.line == pos.line) = true)
    (ha : (scope.names.any fun (n, k) => n == y && (k == .local || k == .cell)) = false) : swapsWith (.DictComp kx vx gs scope pos) (some (.Name y py)) l env = pure true := by
  have ky : env.kindOf y = some .local := hy
  have hb : env.blockKind = .function := by unfold Env.blockKind; rw [hk]; rfl
  unfold swapsWith
  simp only [hb, ky, ha, Expr.pos, hl]
  rfl
/-- name = {k: v for ..} -/
theorem s_setDc {i : Nat} {y : Str} {py spos : Pos} {k : D → M Unit} (hc : X.calm = true) (hN : X.N.Nodup) (hy : X.N[i]? = some y) (hyl : X.env.scope.names.lookup y = some .local) (hsw : swapsWith (.DictComp kx vx [⟨tg, iter, ifs, 0⟩] scope pos) (some (.Name y py)) spos.line X.env = pure true)
    (hi : PI X tg iter (tI (gx X C) W ms)) (ok : BlkOk X.N X.env.scope scope own) (hsub : ∀ i ∈ is, i ∈ own.map (·.2)) (nox : ∀ d env Q E, k d env Q E → k d env Q (fun _ _ => False))
    (hg : ∀ (s : Shared) (H : Hp) (c : Addr) (cl : List (Str × Addr)) (fp : List Addr), PG (X.blk s H scope (compEnvC scope cl c X.env) fp) tg (tTo (gx X C) is k)) (ht : ∀ (s : Shared) (H : Hp) (c : Addr) (cl : List (Str × Addr)) (fp : List Addr), PTs (X.blk s H scope (compEnvC scope cl c X.env) fp) ifs (tBl (gx X C) W0 mt))
    (hk : ∀ (s : Shared) (H : Hp) (c : Addr) (cl : List (Str × Addr)) (fp : List Addr), PE (X.blk s H scope (compEnvC scope cl c X.env) fp) kx (tD (gx X C) W0 mk))
    (he : ∀ (s : Shared) (H : Hp) (c : Addr) (cl : List (Str × Addr)) (fp : List Addr), PE (X.blk s H scope (compEnvC scope cl c X.env) fp) vx (tD (gx X C) W0 mv)) (hs : ∀ x, foldedSetIterable iter X.env x = pure x := by intro _; rfl) :
    PS X (.Assign [.Name y py] (.DictComp kx vx [⟨tg, iter, ifs, 0⟩] scope pos) spos) (tS (gx X C) W (thenN (bnd (compMD ms k (own.map (·.2)) mt mk mv) (setO i)))) :=
  psImp (ps_setDc hc hN hy hyl hsw hi ok hg ht hk he hs) fun Z σ H ⟨B, F, env, h⟩ => by
    refine comp_readsD hsub nox ?_
    have h : Ps (gx X C) W (bnd (compMD ms k (own.map (·.2)) mt mk mv) fun d => bnd (setO i d) fun _ => ret .nx) Z σ H B F env := h
    refine (h.bind (Ra := RO (gx X C)) (as := []) (xs := [])).imp fun y H1 ⟨F1, env1, d, ⟨Qd, Ed, rel, hm, h1, h2, h3, h4, h5⟩, a, ea, hF, hB, ho, hn⟩ => ?_
    subst ea
    have hm : setO i d env1 (fun _ env' => Qd .nx env') Ed := hm
    unfold setO at hm
    cases q : env1[i]? with
    | none => rw [q] at hm; exact hm.elim
    | some s =>
      rw [q] at hm
      cases s with
      | io _ _ => exact hm.elim
      | _ => exact h1 _ _ F1 H1 hm Stp.refl (rel.setO hF hB ho hn)
end
/-! ### a Hall with its default -/
theorem kwMd_of {K : PySem.W.Frag} {x qual : Str} {st : Stmt} {f : Addr} {fd : FuncData} {ps ks : List Str} {n : Nat} {y : Str} {z : Int} (idx : List Nat) (F : FunD K x qual (defArgs st) (defBody st) (defScope st) [] [(y, .int z)] f fd) (hi : ∀ i ∈ idx, i < n + (ks.length + 1)) (hl : idx.length + 1 = ps.length)
    (h : ∀ (D : Addr) (doc pm : Value) (an : Option Addr) (cdv ct : Value) (us mv ws : List Value), us.length = n + 1 → mv.length = 1 → ws.length = ks.length → KwChain D ([y].zip mv) (bindArgs (PySem.W.fnOf x qual (defArgs st) (defBody st) (defScope st) .none (.ref D) doc pm an cdv ct) ⟨us, ks.zip ws⟩) (ps.zip (pick (0 :: idx.map (· + 1)) us (ws ++ mv)))) :
    ∃ g, KwM K fd ps n ks (fun ds es => pick idx ds (es ++ [.int z])) g (fun vs zs => pick (0 :: idx.map (· + 1)) vs (zs ++ [.int z])) (fun vs zs => pick idx vs (zs ++ [.int z])) := by
  obtain ⟨mv, hb⟩ := F.kbinds0 (ps := ps) (n + 1) ks [(y, .int z)] (fun {α} us mv ws => pick (0 :: idx.map (· + 1)) us (ws ++ mv)) (by simp) (fun q hq => hq) (fun r1 r2 r3 => pick_vals r1 (r3.append r2) _) (fun D doc pm an cdv ct us mv ws l1 l2 l3 => h D doc pm an cdv ct us mv ws l1 l2 l3)
  refine ⟨_, hb, fun v vs zs => pick_succ v vs _ idx, fun vs zs l1 l2 => ?_, fun {G F H ds es vs zs} r q => pick_rel r (q.append (show RpL G F H [D.int z] [V.int z] from ⟨_, [], rfl, rfl, rfl⟩)) idx⟩
  rw [pick_length fun i hm => by rw [l1, List.length_append, l2]; exact hi i hm, hl]
end DL

set_option Elab.async false
set_option linter.all false
set_option maxRecDepth 100000
set_option maxHeartbeats 2000000
/-! sorted of lists and tuples of ints; list(x) as an own object; max, min of a list. -/
namespace DLs
open PySem PyProof.Rows Srt SrtO
section
variable {prog : Program} {w : World} {A : Around} {E : Value → Shared → Prop} {s : Shared}
theorem collect_tuple {l : Addr} {vs : List Value} {Q : List Value → Shared → Prop} {o : Obj} {n : Nat} (ho : s.heap.get? l = some o) (hc : o.cls = .type "tuple") (hd : o.data = .seq vs.toArray n)
    (h : Q vs { s with heap := (s.heap.push (seqObj "list" #[] 0)).update s.heap.objs.size (Obj.mapSeq (· ++ vs.toArray)) }) (hsz : vs.length ≤ sizeLine) :
    wpAny (model prog w) A (collect (.ref l)) Q E s := by
  unfold collect
  refine wpAny_bind (wpAny_runValue (codeAny_builtin entry_proto_collect' ?_))
  show wpAny _ _ (do again (.builtin "list.__iadd__" ⟨[← newList [], .ref l], []⟩)) _ _ s
  refine wpAny_bind (wpAny_newList (wpAny_pure ⟨Code.quiet_builtin _ (by decide +kernel), codeAny_builtin entry_list_iadd' ?_⟩))
  show wpAny _ _ (Builtin.List.listExtendWith (.ref s.heap.objs.size) (.ref l) (.ref s.heap.objs.size)) _ _ { s with heap := s.heap.push (seqObj "list" #[] 0) }
  unfold Builtin.List.listExtendWith
  have ho' : (s.heap.push (seqObj "list" #[] 0)).get? l = some o := Heap.get?_push_of_some _ ho
  refine wpAny_bind (wpAny_typeOf (T := "tuple") ⟨o, ho', hc⟩ ?_)
  have ht : (Value.type "tuple" == Value.type "tuple") = true := by rfl
  rw [if_pos (by rw [ht]; simp)]
  refine wpAny_bind (listItems_at ho' hd ?_)
  refine wpAny_bind (listItems_at (xs := #[]) (n := 0) (Heap.get?_push_size _ rfl) rfl ?_)
  rw [if_neg (by simp)]
  refine wpAny_bind (listUpdate_at (xs := #[]) (n := 0) (Heap.get?_push_size _ rfl) rfl ?_ (Nat.zero_le _) (by show (#[] ++ vs.toArray).size ≤ sizeLine + 1; simp only [Array.size_append, List.size_toArray, List.length_nil]; omega))
  refine wpAny_pure ?_
  show wpAny (model prog w) A (do
      let o ← load s.heap.objs.size
      match o.data with
      | .seq xs _ => pure xs.toList
      | _ => unsupported "internal:collect") Q E { s with heap := (s.heap.push (seqObj "list" #[] 0)).update s.heap.objs.size (Obj.mapSeq (· ++ vs.toArray)) }
  refine wpAny_bind (wpAny_load (get?_update_seq (Heap.get?_push_size _ rfl) _) ?_)
  show wpAny _ _ (pure ((#[] : Array Value) ++ vs.toArray).toList) Q E _
  rw [show ((#[] : Array Value) ++ vs.toArray).toList = vs by simp]
  exact wpAny_pure h
theorem sorted_ordT {l : Addr} {vs : List Value} {ltv : Value → Value → Bool} {Q : Value → Shared → Prop} {o : Obj} {n : Nat} (O : Swo ltv) (ho : s.heap.get? l = some o) (hc : o.cls = .type "tuple") (hd : o.data = .seq vs.toArray n) (hz : vs.length ≤ sizeLine)
    (hS : 2 ≤ vs.length → ∀ (h₁ : Heap) (a : Addr), h₁.get? a = some (seqObj "list" vs.toArray 0) → (∀ b o, s.heap.get? b = some o → b ≠ a ∧ h₁.get? b = some o) → SortableO prog w A.in1.in1 { s with heap := h₁ } a vs ltv)
    (h : ∀ out : List Value, Srtd ltv out → Stb ltv out vs → Q (.ref (s.heap.objs.size + 1)) { s with heap := sortedAll s.heap vs out.toArray }) :
    wpAny (model prog w) A (call (.builtin "sorted") [.ref l]) Q E s := by
  refine Calls.call_function_entry kind_sorted plain_sorted entry_sorted (args_sorted1 _) ?_
  unfold Builtin.«sorted»
  refine wpAny_bind (m := checkCount "sorted" 1 1 _) (wpAny_pure ?_)
  refine wpAny_bind (collect_tuple ho hc hd ?_ hz)
  refine wpAny_bind (wpAny_newList ?_ hz)
  have hsz : ((s.heap.push (seqObj "list" #[] 0)).update s.heap.objs.size (Obj.mapSeq (· ++ vs.toArray))).objs.size = s.heap.objs.size + 1 := by
    rw [Heap.size_update, size_push']
  have hoL : (((s.heap.push (seqObj "list" #[] 0)).update s.heap.objs.size (Obj.mapSeq (· ++ vs.toArray))).push (seqObj "list" vs.toArray 0)).get? (s.heap.objs.size + 1) = some (seqObj "list" vs.toArray 0) := by
    rw [← hsz]; exact Heap.get?_push_size _ rfl
  have keep : ∀ b o, s.heap.get? b = some o → b ≠ s.heap.objs.size + 1 ∧ (((s.heap.push (seqObj "list" #[] 0)).update s.heap.objs.size (Obj.mapSeq (· ++ vs.toArray))).push (seqObj "list" vs.toArray 0)).get? b = some o := fun b o q => by
    have hlt : b < s.heap.objs.size := Heap.lt_size q
    refine ⟨Nat.ne_of_lt (Nat.lt_succ_of_lt hlt), Heap.get?_push_of_some _ ?_⟩
    rw [Heap.get?_update_ne _ _ _ _ (Nat.ne_of_lt hlt)]
    exact Heap.get?_push_of_some _ q
  show wpAny _ _ _ _ _ { s with heap := ((s.heap.push (seqObj "list" #[] 0)).update s.heap.objs.size (Obj.mapSeq (· ++ vs.toArray))).push (seqObj "list" vs.toArray 0) }
  rw [hsz]
  refine wpAny_bind (wpAny_holding (wpAny_call_entry slot_list_sort ⟨_, hoL, rfl⟩ entry_list_sort (list_sort_ord O hoL hz (fun h2 => hS h2 _ _ hoL keep) fun out hs hb => ⟨_, rfl, ?_⟩) (args_list_sort _)))
  exact wpAny_pure ⟨_, rfl, h out hs hb⟩
end
end DLs
namespace DL
open PySem PySem.Spec PyProof.Rows L2
variable [Tbs]
def rSortedT (K : PySem.W.Frag) : List V → Hp → VK → Prop := fun vs H Q => ∃ (a : Addr) (ns : List Int), vs = [V.ref a] ∧ (SqL K H a (ns.map V.int) ∨ SqT K H a (ns.map V.int)) ∧
  ∀ (ns' : List Int) (p : Addr), ns'.Perm ns → ns'.Pairwise (· ≤ ·) → H p = none → Q (.ref p) (upd H p (.lst (ns'.map V.int)))
theorem cr_sortedT {X : Cx} : CallR X (.builtin "sorted") (rSortedT X.K) := by
  intro pins s σ H vs us Q I r h
  obtain ⟨a, ns, rfl, hs, q⟩ := h
  rcases hs with hs | hs
  · exact cr_sortedI pins s σ H _ us Q I r ⟨a, ns, rfl, hs, q⟩
  · obtain ⟨its, rv, hl, hz⟩ := I.tuple hs
    rw [Vals.ref1 r]
    have hi := rv.ints
    obtain ⟨o, ho, hc, n, hd⟩ := hl
    refine DLs.sorted_ordT SrtO.swo_int ho hc hd (by rw [← rv.length]; exact hz) (fun h2 h₁ a' _ _ => SrtO.ints_sortable hi h2) fun out h1 h2 => ?_
    obtain ⟨k1, k2, k3⟩ := SrtO.ints_out hi h1 h2
    obtain ⟨ep, he'⟩ := PyProof.Rows.sortedAll_at s.heap its out.toArray
    have hlen : ((out.map SrtO.iv).map V.int).length ≤ sizeLine := by
      rw [List.length_map, k2.length_eq]
      rw [List.length_map] at hz
      exact hz
    exact ⟨.ref _, upd H (s.heap.objs.size + 1) (.lst ((out.map SrtO.iv).map V.int)), I.laid (t' := s.toks) (fun _ _ => PyProof.Rows.sortedAll_old) (Nat.le_succ _) ⟨hlen, out, ep, vals_of_ints k1, he'⟩, rfl, q _ _ k2 k3 (I.hok.fresh (Nat.le_succ _))⟩
/-- rising, by insertion -/
def insI (i : Int) : List Int → List Int
  | [] => [i]
  | j :: l => if i ≤ j then i :: j :: l else j :: insI i l
def sortI : List Int → List Int
  | [] => []
  | i :: l => insI i (sortI l)
theorem insI_perm (i : Int) : ∀ l : List Int, (insI i l).Perm (i :: l)
  | [] => .refl _
  | j :: l => by
    unfold insI
    split
    · exact .refl _
    · exact ((insI_perm i l).cons j).trans (.swap i j l)
theorem insI_srt (i : Int) : ∀ l : List Int, l.Pairwise (· ≤ ·) → (insI i l).Pairwise (· ≤ ·)
  | [], _ => by simp [insI]
  | j :: l, h => by
    rw [List.pairwise_cons] at h
    unfold insI
    split
    · rename_i hij
      rw [List.pairwise_cons, List.pairwise_cons]
      exact ⟨fun k hk => by rcases List.mem_cons.mp hk with e | hk; · omega
                            · have := h.1 k hk; omega, h⟩
    · rename_i hij
      rw [List.pairwise_cons]
      refine ⟨fun k hk => ?_, insI_srt i l h.2⟩
      rcases List.mem_cons.mp ((insI_perm i l).mem_iff.mp hk) with e | hk
      · omega
      · exact h.1 k hk
theorem sortI_perm : ∀ l : List Int, (sortI l).Perm l
  | [] => .refl _
  | i :: l => (insI_perm i (sortI l)).trans ((sortI_perm l).cons i)
theorem sortI_srt : ∀ l : List Int, (sortI l).Pairwise (· ≤ ·)
  | [] => .nil
  | i :: l => insI_srt i _ (sortI_srt l)
theorem srt_eq : ∀ {l l' : List Int}, l.Pairwise (· ≤ ·) → l'.Pairwise (· ≤ ·) → l.Perm l' → l = l'
  | [], l', _, _, p => (p.nil_eq).symm ▸ rfl
  | i :: l, [], _, _, p => absurd p.length_eq (by simp)
  | i :: l, j :: l', h, h', p => by
    rw [List.pairwise_cons] at h h'
    have e : i = j := by
      have a : i ∈ j :: l' := p.mem_iff.mp (by simp)
      have b : j ∈ i :: l := p.mem_iff.mpr (by simp)
      rcases List.mem_cons.mp a with e | a
      · exact e
      · rcases List.mem_cons.mp b with e | b
        · exact e.symm
        · have := h'.1 i a; have := h.1 j b; omega
    subst e
    rw [srt_eq h.2 h'.2 ((List.perm_cons i).mp p)]
theorem sortI_of {l l' : List Int} (h : l'.Pairwise (· ≤ ·)) (p : l'.Perm l) : sortI l = l' := srt_eq (sortI_srt l) h ((sortI_perm l).trans p.symm)
def sortD : D → M D
  | .lst ds => match intsOf ds with
    | some ns => ret (.lst ((sortI ns).map .int))
    | none => fail
  | .tup ds => match intsOf ds with
    | some ns => ret (.lst ((sortI ns).map .int))
    | none => fail
  | _ => fail
theorem fits_sorted {G : Gx} {W : WX} : FitsC G W (rSortedT G.K) (un1 sortD) := fits1 fun {σ H Q B F env x d} p r => by
  cases d with
  | tup ds =>
    cases z : intsOf ds with
    | none => simp only [sortD, z] at p; exact (Pt.no p).elim
    | some ns =>
      simp only [sortD, z] at p
      have e := intsOf_eq z
      subst e
      obtain ⟨a, vs, e, h1, h2⟩ := r
      subst e
      have evs := RpL.ints.mp h2
      subst evs
      refine ⟨a, ns, rfl, .inr (.inl h1.rd), fun ns' q p1 p2 hq => ?_⟩
      rw [← sortI_of p2 p1]
      exact Pt.lst p (RpL.ints.mpr rfl) hq
  | lst ds =>
    cases z : intsOf ds with
    | none => simp only [sortD, z] at p; exact (Pt.no p).elim
    | some ns =>
      simp only [sortD, z] at p
      have e := intsOf_eq z
      subst e
      obtain ⟨a, vs, e, _, h1, h2⟩ := r
      subst e
      have evs := RpL.ints.mp h2
      subst evs
      refine ⟨a, ns, rfl, .inl (SqL.of h1), fun ns' q p1 p2 hq => ?_⟩
      rw [← sortI_of p2 p1]
      exact Pt.lst p (RpL.ints.mpr rfl) hq
  | _ => exact (Pt.no p).elim
/-- max, min of a list of ints -/
def maxI : List Int → Int
  | [] => 0
  | [i] => i
  | i :: j :: l => max i (maxI (j :: l))
def minI : List Int → Int
  | [] => 0
  | [i] => i
  | i :: j :: l => min i (minI (j :: l))
theorem maxI_is : ∀ {l : List Int} {m : Int}, m ∈ l → (∀ y ∈ l, y ≤ m) → maxI l = m
  | [i], m, h, _ => by simp at h; rw [h]; rfl
  | i :: j :: l, m, h, hm => by
    show max i (maxI (j :: l)) = m
    by_cases z : m ∈ j :: l
    · rw [maxI_is z fun y hy => hm y (List.mem_cons_of_mem _ hy)]
      have := hm i (by simp); omega
    · have e : m = i := (List.mem_cons.mp h).elim id fun w => absurd w z
      subst e
      have le : maxI (j :: l) ≤ m := by
        have mem : ∀ (l : List Int), l ≠ [] → maxI l ∈ l := fun l => by
          induction l with
          | nil => intro h; exact absurd rfl h
          | cons a l ih =>
            intro _
            cases l with
            | nil => exact List.mem_singleton.mpr rfl
            | cons b l =>
              have q := ih (by simp)
              show max a (maxI (b :: l)) ∈ _
              by_cases w : a ≤ maxI (b :: l)
              · rw [Int.max_eq_right w]; exact List.mem_cons_of_mem _ q
              · rw [Int.max_eq_left (by omega)]; simp
        exact hm _ (List.mem_cons_of_mem _ (mem _ (by simp)))
      omega
def max1D : D → M D
  | .lst ds => match intsOf ds with
    | some ns => ask (0 < ns.length) (ret (.int (maxI ns)))
    | none => fail
  | _ => fail
theorem fits_max1 {G : Gx} {W : WX} : FitsC G W (rMax G.K) (un1 max1D) := fits1 fun {σ H Q B F env x d} p r => by
  cases d with
  | lst ds =>
    cases z : intsOf ds with
    | none => simp only [max1D, z] at p; exact (Pt.no p).elim
    | some ns =>
      simp only [max1D, z] at p
      obtain ⟨hl, p⟩ := p.asked
      have e := intsOf_eq z
      subst e
      obtain ⟨a, vs, e, _, h1, h2⟩ := r
      subst e
      have evs := RpL.ints.mp h2
      subst evs
      refine ⟨a, ns, rfl, SqL.of h1, hl, fun m hm hy => ?_⟩
      rw [← maxI_is hm hy]
      exact p.pure (b := .int _) rfl
  | _ => exact (Pt.no p).elim
end DL
namespace DL
open PySem PySem.Spec PyProof.Rows L2
variable [Tbs]
section
variable {X : Cx} {C : Addr} {W : WX} {e : Expr} {ms : M (List D)} {pos p : Pos} {m : M Fl} {body : List Stmt} {h0 : ExceptHandler} {hs : List ExceptHandler}
def un1O (k : D → M O) (ds : List D) : M O := match ds with
  | [d] => k d
  | _ => fail
theorem o_list1 (hg : Gl X "list") (hm : X.mg "list" = none) (ha : PA X [e] (tDs (gx X C) W ms)) (he : starEach [e] X.env = (false, eval e X.env) :: starEach [] X.env := by rfl) (hpl : (backTo pos (starEach [] X.env)).any (·.1) = false := by rfl) :
    PE X (.Call (.Name "list" p) [e] [] pos) (tO (gx X C) W (bnd ms (un1O listO))) := peImp (o_list (C := C) (W := W) hg hm boot_list ha he hpl) fun σ H Q h => by
  have e : (fun ds : List D => (match ds with | [d] => listO d | _ => fail : M O)) = un1O listO := by
    funext ds
    rcases ds with _ | ⟨d, _ | ⟨_, _⟩⟩ <;> rfl
  rw [← e] at h
  exact h
/-- a try whose body raises nothing -/
def tryM (m : M Fl) : M Fl := fun env Q _ => m env Q (fun _ _ => False)
theorem s_try0 (hb : PSs X.nox body (tS (gx X C) W0 m)) : PS X (.Try body (h0 :: hs) [] [] pos) (tS (gx X C) W (tryM m)) :=
  psImp (ps_try_thru0 hb) fun Z σ H ⟨B, F, env, Qd, Ed, rel, hm, h1, h2, h3, h4, h5⟩ => ⟨B, F, env, Qd, _, rel, hm, h1, h2, h3, h4, fun _ _ _ _ _ _ _ q _ _ _ => (show False from q).elim⟩
end
end DL

set_option Elab.async false
set_option linter.all false
set_option maxRecDepth 100000
set_option maxHeartbeats 2000000
namespace DL
open PySem PySem.Spec PyProof.Rows L2
variable [Tbs]
section
variable {X : Cx} {C : Addr} {W : WX} {a b c e : Expr} {es : List Expr} {ma mb mc : M D} {ms : M (List D)} {pos apos cpos p : Pos} {i : Nat}
/-- tuple(own), also of one that is a datum by now -/
def otupV (i : Nat) : M D := fun env Q _ => match env[i]? with
  | some (.ow (.lst ds)) => Q (.tup ds) env
  | some (.io _ (.lst ds)) => Q (.tup ds) env
  | some (.im (.lst ds)) => Q (.tup ds) env
  | some (.im (.tup ds)) => Q (.tup ds) env
  | _ => False
theorem e_otupV (hg : Gl X "tuple") (hm : X.mg "tuple" = none) (ha : PE X a (tVar i)) (na : starEach [a] X.env = (false, eval a X.env) :: starEach [] X.env := by rfl) (hpl : (backTo pos (starEach [] X.env)).any (·.1) = false := by rfl) :
    PE X (.Call (.Name "tuple" p) [a] [] pos) (tD (gx X C) W (otupV i)) :=
  peImp (pe_callTy DLt.call_tupF hg hm boot_tuple (pa_cons ha pa_nil na) (by decide) (by decide) na hpl) fun σ H Q ⟨B, F, env, Qd, Ed, rel, hm, hq, he⟩ => by
    unfold otupV at hm
    cases q : env[i]? with
    | none => rw [q] at hm; exact hm.elim
    | some s =>
      rw [q] at hm
      have mk : ∀ {ds : List D} {vs : List V}, Qd (.tup ds) env → RpL (gx X C) F H ds vs → DLt.NewT vs H Q := fun {ds vs} h r =>
        Pt.tup (G := gx X C) (W := W) (σ := σ) (B := B) (F := F) (env := env) ⟨Qd, Ed, rel, h, hq, he⟩ r
      cases s with
      | no => exact hm.elim
      | ow o => cases o with
        | lst ds =>
          obtain ⟨a, e1, _, _, vs, hv, rv⟩ := rel.sl i _ q
          exact ⟨_, e1, a, vs, rfl, .inl ⟨SqL.of hv, mk hm rv⟩⟩
        | _ => exact hm.elim
      | io a o => cases o with
        | lst ds =>
          obtain ⟨e1, _, _, vs, hv, rv⟩ := rel.sl i _ q
          exact ⟨_, e1, a, vs, rfl, .inl ⟨SqL.of hv, mk hm rv⟩⟩
        | _ => exact hm.elim
      | im d => cases d with
        | lst ds =>
          obtain ⟨v, e1, a, vs, ev, _, hv, rv⟩ := rel.sl i _ q
          subst ev
          exact ⟨_, e1, a, vs, rfl, .inl ⟨SqL.of hv, mk hm rv⟩⟩
        | tup ds =>
          obtain ⟨v, e1, a, vs, ev, hv, rv⟩ := rel.sl i _ q
          subst ev
          exact ⟨_, e1, a, vs, rfl, .inr ⟨.inl hv.rd, hq (.tup ds) env _ F H hm Stp.refl rel ⟨a, vs, rfl, hv, rv⟩⟩⟩
        | _ => exact hm.elim
end
/-! ### x in xs, alike data -/
def rInA (K : PySem.W.Frag) (neg : Bool) : R2 := fun x y H Q => ∃ p xs d ds, y = .ref p ∧ (SqL K H p xs ∨ SqT K H p xs) ∧ Dp K H x d ∧ DpAll K H xs ds ∧ (∀ e ∈ d :: ds, ∀ f ∈ d :: ds, PySem.W.alike e f = true) ∧ (∀ e ∈ d :: ds, e.depth ≤ 64) ∧ Q (.bl (if neg then !ds.any fun e => PyData.eqv e d else ds.any fun e => PyData.eqv e d)) H
theorem readsAll_get {h : Heap} : ∀ {us : List Value} {ds : List PyData} {as : List Addr}, ReadsAll h us ds as → ∀ {k : Nat} {u : Value}, us[k]? = some u → ∃ d bs, ds[k]? = some d ∧ Reads h u d bs
  | [], _, _, _, k, u, e => by simp at e
  | u0 :: us, _, _, r, k, u, e => by
    cases r with
    | cons r1 r2 =>
      cases k with
      | zero => simp at e; subst e; exact ⟨_, _, rfl, r1⟩
      | succ k => obtain ⟨d, bs, h1, h2⟩ := readsAll_get r2 (k := k) (by simpa using e); exact ⟨d, bs, by simpa using h1, h2⟩
theorem readsAll_len {h : Heap} : ∀ {us : List Value} {ds : List PyData} {as : List Addr}, ReadsAll h us ds as → us.length = ds.length
  | [], _, _, r => by cases r; rfl
  | u0 :: us, _, _, r => by
    cases r with
    | cons r1 r2 => rw [List.length_cons, List.length_cons, readsAll_len r2]
theorem member_fun {A : Around} {s : Shared} {us : List Value} {ds : List PyData} {d : PyData} {v : Value} {as bs : List Addr} (hu : A.units + 64 < cLine) (r : ReadsAll s.heap us ds as) (rv : Reads s.heap v d bs) (ha : ∀ e ∈ d :: ds, ∀ f ∈ d :: ds, PySem.W.alike e f = true) (hz : ∀ e ∈ d :: ds, e.depth ≤ 64) :
    ∃ g : Value → Bool, (∀ u ∈ us, SeqAt.EqAt A s u v (g u)) ∧ us.any g = ds.any fun e => PyData.eqv e d := by
  classical
  let g : Value → Bool := fun w => if h : ∃ k : Nat, us[k]? = some w then (match ds[Classical.choose h]? with | some x => PyData.eqv x d | none => false) else false
  have key : ∀ (k : Nat) (w : Value), us[k]? = some w → ∃ x xs, ds[k]? = some x ∧ Reads s.heap w x xs ∧ g w = PyData.eqv x d := fun k w hk => by
    obtain ⟨x, xs, h1, h2⟩ := readsAll_get r hk
    refine ⟨x, xs, h1, h2, ?_⟩
    have hex : ∃ k : Nat, us[k]? = some w := ⟨k, hk⟩
    obtain ⟨y, ys, h3, h4⟩ := readsAll_get r (Classical.choose_spec hex)
    have e : y = x := PySem.W.alike_unique y x w _ _ (ha y (List.mem_cons_of_mem _ (List.mem_of_getElem? h3)) x (List.mem_cons_of_mem _ (List.mem_of_getElem? h1))) h4 h2
    show (if h : ∃ k : Nat, us[k]? = some w then (match ds[Classical.choose h]? with | some x => PyData.eqv x d | none => false) else false) = _
    rw [dif_pos hex, h3, e]
  refine ⟨g, fun u hu' => ?_, ?_⟩
  · obtain ⟨k, hk⟩ := List.mem_iff_getElem?.mp hu'
    obtain ⟨x, xs, h1, h2, h3⟩ := key k u hk
    rw [h3]
    have hm := List.mem_cons_of_mem d (List.mem_of_getElem? h1)
    have := hz x hm
    exact PySem.W.eqAt_alike x d A s u v _ _ h2 rv (ha x hm d (by simp)) (by omega)
  · have ln := readsAll_len r
    rw [Bool.eq_iff_iff, List.any_eq_true, List.any_eq_true]
    constructor
    · rintro ⟨u, hm, hg⟩
      obtain ⟨k, hk⟩ := List.mem_iff_getElem?.mp hm
      obtain ⟨x, xs, h1, h2, h3⟩ := key k u hk
      exact ⟨x, List.mem_of_getElem? h1, by rw [← h3]; exact hg⟩
    · rintro ⟨x, hm, hg⟩
      obtain ⟨k, hk⟩ := List.mem_iff_getElem?.mp hm
      have hl : k < us.length := by rw [ln]; exact (List.getElem?_eq_some_iff.mp hk).1
      obtain ⟨y, ys, h1, h2, h3⟩ := key k us[k] (List.getElem?_eq_getElem hl)
      rw [hk] at h1
      cases h1
      exact ⟨us[k], List.getElem_mem hl, by rw [h3]; exact hg⟩
section
variable {X : Cx}
theorem op_inA (hu : X.A.units + 100 < cLine) : OpR X (compareOp .In) (rInA X.K false) := by
  intro pins s σ H x y v u Q I rx ry h
  obtain ⟨p, xs, d, ds, rfl, hq, hd, hds, ha, hz, q⟩ := h
  cases ry
  obtain ⟨bs, rv⟩ := Dp.reads I d x v hd rx
  have hu1 : X.A.in1.units + 64 < cLine := by have : X.A.in1.units = X.A.units + 1 := rfl; omega
  rcases hq with hq | hq
  · obtain ⟨its, r, pl, hz'⟩ := I.list hq
    obtain ⟨as, ra⟩ := Dp.readsAll I ds _ its hds r
    obtain ⟨g, h1, h2⟩ := member_fun hu1 ra rv ha hz
    refine SeqAt.in_listAt g pl.isList (fun w hw => h1 w (by simpa using hw)) ⟨.bl _, H, I, rfl, ?_⟩
    rw [show its.toArray.any g = its.any g by simp, h2]
    exact q
  · obtain ⟨its, r, pl, hz'⟩ := I.tuple hq
    obtain ⟨as, ra⟩ := Dp.readsAll I ds _ its hds r
    obtain ⟨g, h1, h2⟩ := member_fun hu1 ra rv ha hz
    refine SeqAt.in_tupleAt g pl (fun w hw => h1 w (by simpa using hw)) ⟨.bl _, H, I, rfl, ?_⟩
    rw [show its.toArray.any g = its.any g by simp, h2]
    exact q
theorem op_notInA (hu : X.A.units + 100 < cLine) : OpR X (compareOp .NotIn) (rInA X.K true) := by
  intro pins s σ H x y v u Q I rx ry h
  obtain ⟨p, xs, d, ds, rfl, hq, hd, hds, ha, hz, q⟩ := h
  cases ry
  obtain ⟨bs, rv⟩ := Dp.reads I d x v hd rx
  have hu1 : X.A.in1.units + 64 < cLine := by have : X.A.in1.units = X.A.units + 1 := rfl; omega
  rcases hq with hq | hq
  · obtain ⟨its, r, pl, hz'⟩ := I.list hq
    obtain ⟨as, ra⟩ := Dp.readsAll I ds _ its hds r
    obtain ⟨g, h1, h2⟩ := member_fun hu1 ra rv ha hz
    refine SeqAt.notIn_listAt g pl.isList (fun w hw => h1 w (by simpa using hw)) ⟨.bl _, H, I, rfl, ?_⟩
    rw [show its.toArray.any g = its.any g by simp, h2]
    exact q
  · obtain ⟨its, r, pl, hz'⟩ := I.tuple hq
    obtain ⟨as, ra⟩ := Dp.readsAll I ds _ its hds r
    obtain ⟨g, h1, h2⟩ := member_fun hu1 ra rv ha hz
    refine SeqAt.notIn_tupleAt g pl (fun w hw => h1 w (by simpa using hw)) ⟨.bl _, H, I, rfl, ?_⟩
    rw [show its.toArray.any g = its.any g by simp, h2]
    exact q
end
/-- both forms of in -/
def alikeD (x : D) (ds : List D) : Bool := (x :: ds).all fun e => pyOk e && decide ((py e).depth ≤ 64) && (x :: ds).all fun f => PySem.W.alike (py e) (py f)
def inA (a b : D) : M D := match b with
  | .tup ds => ask (alikeD a ds = true) (ret (.bl (ds.any fun d => eqv d a)))
  | .lst ds => ask (alikeD a ds = true) (ret (.bl (ds.any fun d => eqv d a)))
  | _ => fail
def ninA (a b : D) : M D := match b with
  | .tup ds => ask (alikeD a ds = true) (ret (.bl (!ds.any fun d => eqv d a)))
  | .lst ds => ask (alikeD a ds = true) (ret (.bl (!ds.any fun d => eqv d a)))
  | _ => fail
theorem pyL_map : ∀ ds : List D, pyL ds = ds.map py
  | [] => rfl
  | d :: ds => by show py d :: pyL ds = _; rw [pyL_map ds]; rfl
theorem pyOkL_all : ∀ ds : List D, (∀ d ∈ ds, pyOk d = true) → pyOkL ds = true
  | [], _ => rfl
  | d :: ds, h => by show (pyOk d && pyOkL ds) = true; rw [h d (by simp), pyOkL_all ds fun e he => h e (List.mem_cons_of_mem _ he)]; rfl
section
variable {G : Gx} {W : WX}
theorem inA_data {neg : Bool} {F : Addr → Prop} {H : Hp} {x : V} {p : Addr} {ds : List D} {vs : List V} {a : D} {Q : V → Hp → Prop} (ha : alikeD a ds = true) (ra : Rp G F H a x) (rs : RpL G F H ds vs) (hq : SqL G.K H p vs ∨ SqT G.K H p vs) (q : Q (.bl (if neg then !ds.any fun d => eqv d a else ds.any fun d => eqv d a)) H) : rInA G.K neg x (.ref p) H Q := by
  unfold alikeD at ha
  simp only [List.all_eq_true, Bool.and_eq_true, decide_eq_true_eq] at ha
  have ea := (ha a (by simp)).1.1
  have mem : ∀ e, e ∈ py a :: pyL ds → ∃ d ∈ a :: ds, e = py d := fun e he => by
    rw [pyL_map] at he
    rcases List.mem_cons.mp he with e1 | he
    · exact ⟨a, by simp, e1⟩
    · obtain ⟨d, hd, e1⟩ := List.mem_map.mp he
      exact ⟨d, List.mem_cons_of_mem _ hd, e1.symm⟩
  refine ⟨p, vs, py a, pyL ds, rfl, hq, Rp.dp ra ea, RpL.dp rs (pyOkL_all ds fun d hd => (ha d (List.mem_cons_of_mem _ hd)).1.1), fun e he f hf => ?_, fun e he => ?_, ?_⟩
  · obtain ⟨d, hd, rfl⟩ := mem e he
    obtain ⟨d', hd', rfl⟩ := mem f hf
    exact (ha d hd).2 d' hd'
  · obtain ⟨d, hd, rfl⟩ := mem e he
    exact (ha d hd).1.2
  · have e : ((pyL ds).any fun e => PyData.eqv e (py a)) = ds.any fun d => eqv d a := by rw [pyL_map, List.any_map]; rfl
    rw [e]
    exact q
theorem fits_inA : Fits G W (rInA G.K false) inA := by
  intro σ H Q B F env x y a b h ra rb
  cases b with
  | tup ds => obtain ⟨p, vs, e, h1, h2⟩ := rb; subst e; exact inA_data (Pt.asked h).1 ra h2 (.inr (.inl h1.rd)) ((Pt.asked h).2.pure (b := .bl _) rfl)
  | lst ds => obtain ⟨p, vs, e, _, h1, h2⟩ := rb; subst e; exact inA_data (Pt.asked h).1 ra h2 (.inl (SqL.of h1)) ((Pt.asked h).2.pure (b := .bl _) rfl)
  | _ => exact (Pt.no h).elim
theorem fits_ninA : Fits G W (rInA G.K true) ninA := by
  intro σ H Q B F env x y a b h ra rb
  cases b with
  | tup ds => obtain ⟨p, vs, e, h1, h2⟩ := rb; subst e; exact inA_data (Pt.asked h).1 ra h2 (.inr (.inl h1.rd)) ((Pt.asked h).2.pure (b := .bl _) rfl)
  | lst ds => obtain ⟨p, vs, e, _, h1, h2⟩ := rb; subst e; exact inA_data (Pt.asked h).1 ra h2 (.inl (SqL.of h1)) ((Pt.asked h).2.pure (b := .bl _) rfl)
  | _ => exact (Pt.no h).elim
end
end DL

set_option Elab.async false
set_option linter.all false
set_option maxRecDepth 100000
set_option maxHeartbeats 2000000
namespace DLt
open PySem PySem.Spec PyProof.Rows L2
section
variable {prog : Program} {w : World} {A : Around} {E : Value → Shared → Prop} {s : Shared}
theorem sliceApplied_back {sl : Addr} {vs : Value} {Q : Int × Int × Nat → Shared → Prop} (hs : s.heap.IsSliceOf sl .none .none vs) (ps : IsPart vs (some (-1))) (h : Q (1, -1, 2) s) : wpAny (model prog w) A (Builtin.Slice.sliceApplied (.ref sl) (pure (2 : Int))) Q E s := by
  obtain ⟨os, hos, hcs, hds⟩ := id hs
  unfold Builtin.Slice.sliceApplied Builtin.Slice.sliceFields
  refine wpAny_bind (wpAny_bind (wpAny_field hos hds (x := .none) rfl (wpAny_bind (wpAny_field hos hds (x := .none) rfl (wpAny_bind (wpAny_field hos hds (x := vs) rfl (wpAny_pure ?_)))))))
  refine wpAny_bind (HT.slicePart_ ps ?_)
  show wpAny _ _ (if ((-1 : Int) == 0) = true then _ else _) _ _ s
  rw [if_neg (by decide)]
  refine wpAny_bind (slicePart_none (wpAny_bind (slicePart_none (wpAny_bind (wpAny_pure ?_)))))
  show wpAny _ _ (pure ((1 : Int), (-1 : Int), 2)) _ _ s
  exact wpAny_pure h
theorem getItem_tuple_back {t sl : Addr} {v1 v2 : Value} {vs : Value} {Q : Value → Shared → Prop} (ht : IsTup s.heap t #[v1, v2]) (hs : s.heap.IsSliceOf sl .none .none vs) (ps : IsPart vs (some (-1)))
    (h : Q (.ref s.heap.objs.size) { s with heap := s.heap.push { cls := .type "tuple", data := .seq #[v2, v1] } }) : wpAny (model prog w) A (getItem (.ref t) (.ref sl)) Q E s := by
  have htake : sizeOk (.seq #[v2, v1]) := by show 2 ≤ sizeLine; decide
  obtain ⟨os, hos, hcs, hds⟩ := id hs
  have hTs : s.TypeIs (.ref sl) "slice" := ⟨os, hos, hcs⟩
  unfold getItem
  try with_reducible refine wpAny_holding ?_
  first | refine wpAny_bind (wpAny_pure ?_) | skip
  refine wpAny_bind (wpAny_sequenceKey ht.typeIs (by decide) ?_)
  refine wpAny_bind (wpAny_callSpecial?_slot (name := Str.ofString "__getitem__") ht.typeIs PyProof.Rows.slot_tuple_getitem
    (wpAny_call_entry PyProof.Rows.slot_tuple_getitem ht.typeIs entry_tuple_getitem ?_ (args_tuple_getitem _ _)))
  show wpAny _ _ (Builtin.Tuple.tupleItemsOf (.ref t) >>= _) _ _ s
  refine wpAny_bind (tupleItemsOf_ ht ?_)
  refine wpAny_bind (wpAny_typeOf hTs ?_)
  rw [if_pos (by decide)]
  refine wpAny_bind (sliceApplied_back hs ps ?_)
  show wpAny _ _ (if (((1 : Int)) == 0 && (-1 : Int) == 1 && 2 == (#[v1, v2] : Array Value).size) = true then _ else _) _ _ s
  rw [if_neg (fun h => by cases (show false = true from h))]
  first
    | exact wpAny_bind (m := Builtin.Tuple.tupleExact _) (wpAny_newObj_type (wpAny_pure ⟨_, rfl, wpAny_pure h⟩) htake)
    | exact wpAny_bind (m := Builtin.Tuple.tupleExact _) (wpAny_newObj_type (wpAny_bind (wpAny_pure (wpAny_pure ⟨_, rfl, wpAny_pure h⟩))) htake)
    | exact wpAny_bind (wpAny_bind (m := Builtin.Tuple.tupleExact _) (wpAny_newObj_type (wpAny_pure (wpAny_pure ⟨_, rfl, wpAny_pure h⟩)) htake))
    | exact wpAny_bind (wpAny_bind (m := Builtin.Tuple.tupleExact _) (wpAny_newObj_type (wpAny_pure ⟨_, rfl, wpAny_pure h⟩) htake))
end
section
variable {X : Cx}
def tBack (K : PySem.W.Frag) (te : TE) : TE := fun σ H Q => te σ H fun x H1 => ∃ a v1 v2, x = .ref a ∧ SqT K H1 a [v1, v2] ∧ NewT [v2, v1] H1 Q
theorem pe_back {e : Expr} {te : TE} {k : Nat} {p1 p2 p3 pos : Pos} (he : PE X e te) : PE X (.Subscript e (.Slice none none (some (.UnaryOp .USub (.Constant (.int 1) k p1) p2)) p3) pos) (tBack X.K te) := by
  refine ⟨fun pins s σ H Q I h => ?_⟩
  refine Subscript_ (thn (he.run pins s σ H _ I h) fun v s1 ⟨x, H1, I1, r1, q1⟩ => ?_)
  obtain ⟨a, w1, w2, ex, hx, q⟩ := q1
  subst ex
  cases r1
  have hst : PO X (some (.UnaryOp .USub (.Constant (.int 1) k p1) p2)) (tPart (tUn (rU fun i => .int (-i)) (tC (.int 1)))) := po_some (pe_un un_neg pe_int)
  refine wpAny_Slice (thn (po_none.run pins s1 σ H1 (fun o H2 => o = none ∧ H2 = H1) I1 ⟨rfl, rfl⟩) fun vl s2 ⟨l, H2, I2, pl, el, e2⟩ => ?_)
  subst el e2
  refine thn (po_none.run pins s2 σ H2 (fun o H3 => o = none ∧ H3 = H2) I2 ⟨rfl, rfl⟩) fun vu s3 ⟨u, H3, I3, pu, eu, e3⟩ => ?_
  subst eu e3
  refine thn (hst.run pins s3 σ H3 (fun o H4 => o = some (-1) ∧ H4 = H3) I3 ⟨1, rfl, -1, rfl, rfl, rfl⟩) fun vs s4 ⟨o, H4, I4, ps, eo, e4⟩ => ?_
  subst eo e4
  have I5 : Inv X pins σ H4 { s4 with heap := s4.heap.push { cls := .type "slice", data := .fields #[vl, vu, vs] } } := I4.kept (t' := s4.toks) fun b ob q => Heap.get?_push_of_some _ q
  obtain ⟨us, rv, tp, sz⟩ := I5.tuple hx
  show wpAny (model X.prog X.w) X.A (subscriptTail e (.Slice none none (some (.UnaryOp .USub (.Constant (.int 1) k p1) p2)) p3) (.ref a) (.ref s4.heap.objs.size)) (EP X pins σ Q) X.xe { s4 with heap := s4.heap.push { cls := .type "slice", data := .fields #[vl, vu, vs] } }
  obtain ⟨u1, u2, rfl, r1, r2⟩ : ∃ u1 u2, us = [u1, u2] ∧ RelV w1 u1 ∧ RelV w2 u2 := by
    cases rv with
    | cons p q =>
      cases q with
      | cons p' q' =>
        cases q'
        exact ⟨_, _, rfl, p, p'⟩
  refine tail_any (ops := [.ref a, .ref s4.heap.objs.size]) tp.typeIs (PyProof.Rows.slot_tuple_getitem.lookup) ?_ (by with_unfolding_all rfl)
  cases pl
  cases pu
  refine getItem_tuple_back tp (Heap.IsSliceOf.new _ _ _ vs) ps ?_
  exact made I5 (us := [u2, u1]) (.cons r2 (.cons r1 .nil)) (by show 2 ≤ sizeLine; rw [sizeLine_eq]; decide) q
end
end DLt
namespace DL
open PySem PySem.Spec PyProof.Rows L2
variable [Tbs]
/-- t[::-1] of a pair -/
def backM (ma : M D) : M D := bnd ma fun d => match d with
  | .tup [a, b] => ret (.tup [b, a])
  | _ => fail
section
variable {X : Cx} {C : Addr} {W : WX} {a : Expr} {ma : M D} {k : Nat} {p1 p2 p3 pos : Pos}
theorem e_back (ha : PE X a (tD (gx X C) W ma)) : PE X (.Subscript a (.Slice none none (some (.UnaryOp .USub (.Constant (.int 1) k p1) p2)) p3) pos) (tD (gx X C) W (backM ma)) :=
  peImp (DLt.pe_back ha) fun σ H Q h => (lift1 (Ra := RD (gx X C)) h).imp fun x H1 ⟨B, F, env, d, p, r⟩ => by
    cases d with
    | tup ds =>
      obtain ⟨q, vs, e, h1, h2⟩ := id r
      subst e
      match ds, vs, h1, h2, p with
      | [], _, _, _, p => exact (Pt.no p).elim
      | [_], _, _, _, p => exact (Pt.no p).elim
      | [d1, d2], vs, h1, h2, p =>
        obtain ⟨v1, r1, e1, q1, v2, r2, e2, q2, e3⟩ := h2
        cases e3
        subst e2
        subst e1
        exact ⟨q, v1, v2, rfl, .inl h1.rd, Pt.tup (ds := [d2, d1]) p ⟨v2, _, rfl, q2, v1, _, rfl, q1, rfl⟩⟩
      | _ :: _ :: _ :: _, _, _, _, p => exact (Pt.no p).elim
    | _ => exact (Pt.no p).elim
end
end DL

set_option Elab.async false
set_option linter.all false
set_option maxRecDepth 100000
set_option maxHeartbeats 2000000
namespace DLt
open PySem PySem.Spec PyProof.Rows L2
section
variable {X : Cx}
theorem pairs_of2 {pins : List (Addr × Obj)} {σ : L2.St} {H : Hp} {s : Shared} (I : Inv X pins σ H s) : ∀ {ps : List Addr} {kvs : List (Key × V)}, Paired (fun p kv => SqT X.K H p [kV kv.1, kv.2]) ps kvs →
    ∃ (prs : List (Key × Value)) (uv : List (Value × Value)), KV kvs prs ∧ prs.length = ps.length ∧ uv.length = ps.length ∧ ∀ (j : Nat) (k v : Value), uv[j]? = some (k, v) → ∃ (b : Addr) (key : Key), ps[j]? = some b ∧ IsTup s.heap b #[k, v] ∧ prs[j]? = some (key, v) ∧ keyIs key k = true
  | _, _, .nil => ⟨[], [], .nil, rfl, rfl, fun j k v e => by simp at e⟩
  | _, _, .cons (a := p) (b := kv) h t => by
    obtain ⟨prs, uv, r, hl, hl2, hp⟩ := pairs_of2 I t
    obtain ⟨its, rv, ht, _⟩ := I.tuple h
    obtain ⟨u, y, ei, ru, ry⟩ := vals2 rv
    subst ei
    refine ⟨(kv.1, y) :: prs, (u, y) :: uv, .cons ⟨rfl, ry⟩ r, by rw [List.length_cons, List.length_cons, hl], by rw [List.length_cons, List.length_cons, hl2], fun j k v e => ?_⟩
    cases j with
    | zero =>
      have e' : (u, y) = (k, v) := Option.some.inj e
      cases e'
      exact ⟨p, kv.1, rfl, ht, rfl, kV_is (P := X.prog) (w := X.w) ru⟩
    | succ j =>
      obtain ⟨b, key, e1, e2, e3, e4⟩ := hp j k v (by simpa using e)
      exact ⟨b, key, by simpa using e1, e2, by simpa using e3, e4⟩
/-- dict(t) of a tuple of pairs -/
theorem call_dictT (hcalm : X.calm = true) : CallR X (.type "dict") (fun xs H Q => ∃ (a : Addr) (ob : Obj) (ps : List Addr) (kvs : List (Key × V)), xs = [.ref a] ∧ H a = some (.frz ob (.tup (ps.map V.ref))) ∧ ob.dict = none ∧ Paired (fun p kv => SqT X.K H p [kV kv.1, kv.2]) ps kvs ∧
    ∀ p, H p = none → Q (.ref p) (upd H p (.dK (mergeK [] kvs)))) := by
  intro pins s σ H xs us Q I r q
  obtain ⟨a, ob, ps, kvs, ex, hq, hd, hp, q⟩ := q
  subst ex
  obtain ⟨u, eu, rx⟩ := vals1 r
  subst eu
  cases rx
  obtain ⟨its, rv, ⟨o, ho, hc, n, hdat⟩, hz⟩ := I.tuple (.inl (.inr ⟨ob, hq⟩))
  have ei := refs_at rv
  subst ei
  rw [List.length_map] at hz
  obtain ⟨prs, uv, rel, hl, hl2, hpr⟩ := pairs_of2 I hp
  obtain ⟨look, _⟩ := I.hok a _ hq
  rw [ho] at look
  cases look
  refine PySem.call_dict_pairs (knd := mixKind X.prog X.w) (kvs := prs) (PairArg.tuple a (ps.map Value.ref).toArray (fun j => (ps[j]?).getD 0) uv) (I.ok.hd hcalm)
    ⟨⟨ob, n, ho, hc, hd, hdat⟩, by simp [hl2], fun j k v e => ?_⟩ ⟨by rw [hl, hl2], fun j k v e => ?_⟩ (by rw [hl2]; exact hz) fun h' tk hd' k => ?_
  · obtain ⟨b, key, e1, e2, e3, e4⟩ := hpr j k v e
    refine ⟨by simp [e1], ?_⟩
    rw [show (fun j => (ps[j]?).getD 0) j = b by show (ps[j]?).getD 0 = b; rw [e1]; rfl]
    obtain ⟨ob2, g1, g2, n2, g3⟩ := e2
    exact .inl ⟨ob2, g1, g2, n2, g3⟩
  · obtain ⟨b, key, e1, e2, e3, e4⟩ := hpr j k v e
    exact ⟨key, e3, e4⟩
  · have hm : (s.heap.objs.size == sysModules) = false := beq_eq_false_iff_ne.mpr (Nat.ne_of_gt I.big)
    have hlen : (mergeK [] kvs).length ≤ sizeLine := by
      refine Nat.le_trans (length_mergeK kvs []) ?_
      rw [List.length_nil, Nat.zero_add, rel.length, hl]
      exact hz
    exact ⟨.ref s.heap.objs.size, upd H s.heap.objs.size (.dK (mergeK [] kvs)), I.laid (t' := tk) (fun b o e => k b o (fun z => nomatch z) e) (Nat.le_refl _) (show ObjOk X.prog X.w _ _ _ (.dK (mergeK [] kvs)) from ⟨hlen, hm, merged [] prs, KV.merge rel .nil, hd'⟩), rfl, q _ (I.hok.fresh (Nat.le_refl _))⟩
end
end DLt
namespace DL
open PySem PySem.Spec PyProof.Rows L2
variable [Tbs]
def pairsOf : List D → Option (List (Key × D))
  | [] => some []
  | .tup [.int i, d] :: ds => (pairsOf ds).map ((.inl i, d) :: ·)
  | .tup [.str i, d] :: ds => (pairsOf ds).map ((.inr i, d) :: ·)
  | _ :: _ => none
def mergeD (kvs more : List (Key × D)) : List (Key × D) := more.foldl (fun acc kv => putD acc kv.1 kv.2) kvs
/-- dict(t) of a tuple of pairs, to be owned -/
def dictO : D → M O
  | .tup ds => match pairsOf ds with
    | some kvs => ret (.dic (mergeD [] kvs))
    | none => fail
  | _ => fail
section
variable {G : Gx} {W : WX} {B F : Addr → Prop} {σ : L2.St} {H : Hp} {env : List Slot}
theorem KvR.merge : ∀ {more : List (Key × D)} {m : List (Key × V)} {kvs : List (Key × D)} {l : List (Key × V)}, KvR G F H kvs l → KvR G F H more m → KvR G F H (mergeD kvs more) (mergeK l m)
  | [], _, _, _, h, h' => by cases (show _ = _ from h'); exact h
  | (k, d) :: r, _, _, _, h, ⟨v, l', e, h1, h2⟩ => by
    subst e
    have q := KvR.merge (h.put (k := k) h1) h2
    exact q
theorem pairs_rp : ∀ {ds : List D} {kvs : List (Key × D)} {vs : List V}, pairsOf ds = some kvs → RpL G F H ds vs → ∃ (ps : List Addr) (l : List (Key × V)), vs = ps.map V.ref ∧ Paired (fun p kv => SqT G.K H p [kV kv.1, kv.2]) ps l ∧ KvR G F H kvs l := by
  intro ds
  induction ds with
  | nil => intro kvs vs e r; cases (show _ = _ from r); cases e; exact ⟨[], [], rfl, .nil, rfl⟩
  | cons x ds ih =>
    intro kvs vs e r
    obtain ⟨v, r', e1, rx, rr⟩ := r
    subst e1
    have key : ∀ (kd : D) (k : Key) (d : D) (ks : List (Key × D)), x = .tup [kd, d] → (∀ u, Rp G F H kd u → u = kV k) → kvs = (k, d) :: ks → pairsOf ds = some ks → ∃ (ps : List Addr) (l : List (Key × V)), v :: r' = ps.map V.ref ∧ Paired (fun p kv => SqT G.K H p [kV kv.1, kv.2]) ps l ∧ KvR G F H kvs l := by
      rintro kd k d ks rfl hk rfl hks
      obtain ⟨p, vs, ev, ht, hv⟩ := rx
      subst ev
      obtain ⟨ps, l, e2, pp, kk⟩ := ih hks rr
      subst e2
      obtain ⟨v1, r1, e3, q1, v2, r2, e4, q2, e5⟩ := hv
      cases e5
      subst e4
      subst e3
      have := hk v1 q1
      subst this
      exact ⟨p :: ps, (k, v2) :: l, rfl, .cons (.inl ht.rd) pp, ⟨v2, l, rfl, q2, kk⟩⟩
    unfold pairsOf at e
    split at e
    · rename_i h; cases h
    · rename_i h
      cases h
      obtain ⟨ks, hks, rfl⟩ := Option.map_eq_some_iff.mp e
      exact key (.int _) (.inl _) _ ks rfl (fun u q => q) rfl hks
    · rename_i h
      cases h
      obtain ⟨ks, hks, rfl⟩ := Option.map_eq_some_iff.mp e
      exact key (.str _) (.inr _) _ ks rfl (fun u q => q) rfl hks
    · cases e
theorem Pt.odict {kvs : List (Key × D)} {l : List (Key × V)} {p : Addr} {Q : V → Hp → Prop} (h : Pt G W (RO G) σ H Q (ret (.dic kvs)) B F env) (hx : KvR G F H kvs l) (hp : H p = none) : Q (.ref p) (upd H p (.dK l)) := by
  obtain ⟨Qd, Ed, rel, hm, hq, he⟩ := h
  exact hq _ env _ F _ hm (stp_new hp) (rel.new hp) ⟨p, rfl, rel.notF hp, rel.notB hp, ⟨l, upd_same, KvR.mono (stp_new (B := B) hp) _ _ hx⟩, fun i h => (rel.ownSome h).1 hp⟩
end
section
variable {X : Cx} {C : Addr} {W : WX} {e : Expr} {ms : M (List D)} {pos p : Pos}
theorem o_dict (hc : X.calm = true) (hg : Gl X "dict") (hm : X.mg "dict" = none) (hv : bootBuiltins "dict" = some (.type "dict")) (ha : PA X [e] (tDs (gx X C) W ms)) (he : starEach [e] X.env = (false, eval e X.env) :: starEach [] X.env := by rfl) (hpl : (backTo pos (starEach [] X.env)).any (·.1) = false := by rfl) :
    PE X (.Call (.Name "dict" p) [e] [] pos) (tO (gx X C) W (bnd ms (un1O dictO))) := peImp (pe_callTy (DLt.call_dictT hc) hg hm hv ha (by decide) (by decide) he hpl) fun σ H Q h => (lift1 (Ra := RDs (gx X C)) h).imp fun xs H1 ⟨B, F, env, ds, q, r⟩ => by
  match ds, q, r with
  | [d], q, ⟨v, r', e, rv, rn⟩ =>
    cases (show _ = _ from rn)
    subst e
    cases d with
    | tup ds =>
      obtain ⟨a, vs, e, h1, h2⟩ := rv
      subst e
      have q : Pt (gx X C) W (RO (gx X C)) σ H1 Q (match pairsOf ds with
        | some kvs => ret (.dic (mergeD [] kvs))
        | none => fail) B F env := q
      cases z : pairsOf ds with
      | none => rw [z] at q; exact (Pt.no q).elim
      | some kvs =>
        rw [z] at q
        obtain ⟨ps, l, e2, pp, kk⟩ := pairs_rp z h2
        subst e2
        obtain ⟨_, ob, e3, e4⟩ := h1
        exact ⟨a, ob, ps, l, rfl, e3, e4, pp, fun p hp => Pt.odict q (KvR.merge (show KvR (gx X C) F H1 [] [] from rfl) kk) hp⟩
    | _ => exact (Pt.no q).elim
  | [], q, _ => exact (Pt.no q).elim
  | _ :: _ :: _, q, _ => exact (Pt.no q).elim
end
end DL
namespace DLt
open PySem PySem.Spec PyProof.Rows L2
section
variable {X : Cx}
def rMaxT (K : PySem.W.Frag) : List V → Hp → VK → Prop := fun vs H Q => ∃ (a : Addr) (n : Int) (ns : List Int), vs = [V.ref a] ∧ SqT K H a ((n :: ns).map V.int) ∧ Q (.int (ns.foldl max n)) H
theorem reads_ints {h : Heap} : ∀ {ns : List Int} {us : List Value}, Vals (ns.map V.int) us → ReadsAll h us (ns.map PyData.int) []
  | [], us, r => by rw [List.map_nil] at r; cases r; exact .nil
  | n :: ns, us, r => by
    rw [List.map_cons] at r
    cases r with
    | cons p q =>
      obtain ⟨t, e⟩ := p
      subst e
      exact .cons (.int _ _) (reads_ints q)
theorem depth_ints : ∀ l : List Int, PyData.depthAll (l.map PyData.int) = 0
  | [] => rfl
  | a :: l => by show max 0 (PyData.depthAll (l.map PyData.int)) = 0; rw [depth_ints l]; rfl
theorem cr_maxT (hc : X.calm = true) (hu : X.A.units + 64 < cLine) : CallR X (.builtin "max") (rMaxT X.K) := by
  intro pins s σ H vs us Q I r h
  obtain ⟨a, n, ns, rfl, hs, q⟩ := h
  obtain ⟨its, rv, tp, _⟩ := I.tuple hs
  rw [Vals.ref1 r]
  have rd := reads_ints (h := s.heap) rv
  have hi : ∀ x ∈ PyData.int n :: ns.map PyData.int, ∃ j, x = .int j := fun x hx => by
    rcases List.mem_cons.mp hx with e | e
    · exact ⟨n, e⟩
    · obtain ⟨j, _, e⟩ := List.mem_map.mp e; exact ⟨j, e.symm⟩
  have dz : PyData.depthAll (PyData.int n :: ns.map PyData.int) = 0 := depth_ints (n :: ns)
  refine PySem.W.max_tuple_data (x := .int n) (xs := ns.map .int) (as := []) (I.ok.hd hc) tp (by simpa using rd) ⟨fun x hx y hy => ?_, fun x hx => ?_⟩ (by rw [dz]; omega) fun i v h' tk bs hv hr hk => ?_
  · obtain ⟨j, rfl⟩ := hi x hx
    obtain ⟨k, rfl⟩ := hi y hy
    rfl
  · obtain ⟨j, rfl⟩ := hi x hx
    exact nofun
  · rw [PySem.W.maxD_ints] at hr
    cases hr
    exact ⟨.int _, H, I.kept hk, ⟨_, rfl⟩, q⟩
end
end DLt
namespace DL
open PySem PySem.Spec PyProof.Rows L2
variable [Tbs]
def maxTD : D → M D
  | .tup ds => match intsOf ds with
    | some (n :: ns) => ret (.int (ns.foldl max n))
    | _ => fail
  | _ => fail
theorem fits_maxT {G : Gx} {W : WX} : FitsC G W (DLt.rMaxT G.K) (un1 maxTD) := fits1 fun {σ H Q B F env x d} p r => by
  cases d with
  | tup ds =>
    cases z : intsOf ds with
    | none => simp only [maxTD, z] at p; exact (Pt.no p).elim
    | some ns =>
      cases ns with
      | nil => simp only [maxTD, z] at p; exact (Pt.no p).elim
      | cons n ns =>
        simp only [maxTD, z] at p
        have e := intsOf_eq z
        subst e
        obtain ⟨a, vs, e, h1, h2⟩ := r
        subst e
        have evs := RpL.ints.mp h2
        subst evs
        exact ⟨a, n, ns, rfl, .inl h1.rd, p.pure (b := .int _) rfl⟩
  | _ => exact (Pt.no p).elim
end DL
namespace DL
open PySem PySem.Spec PyProof.Rows L2
variable [Tbs]
theorem boot_dict : bootBuiltins "dict" = some (.type "dict") := by decide +kernel
end DL

set_option Elab.async false
set_option linter.all false
set_option maxRecDepth 100000
set_option maxHeartbeats 2000000
namespace DL
open PySem PySem.Spec PyProof.Rows L2
variable [Tbs]
section
variable {X : Cx} {C : Addr} {W : WX} {e b a : Expr} {ms : M (List Vl)} {pos p : Pos}
theorem par_reads2 {is : List Nat} {Z : Ends} {σ : L2.St} {H : Hp} (h : tS (gx X C) W (parM is ms) Z σ H) : tVs (gx X C) W ms σ H fun vs H1 => is.length = vs.length ∧ ∀ (a : Addr) (o : HO), H1 a = none → Z.nx (storeV σ is vs) (upd H1 a o) := by
  obtain ⟨B, F, env, h⟩ := h
  have h : Ps (gx X C) W (bnd ms fun vs => bnd (setVs is vs) fun _ => ret .nx) Z σ H B F env := h
  refine (h.bind (Ra := RVl (gx X C)) (as := []) (xs := [])).imp fun y H1 ⟨F1, env1, vl, ⟨Qd, Ed, rel, hm, h1, h2, h3, h4, h5⟩, as, rs⟩ => ?_
  obtain ⟨env', q, rl, l⟩ := setVs_rel rel rs (show setVs is vl env1 (fun _ env' => Qd .nx env') Ed from hm)
  exact ⟨l, fun a o ha => h1 env' _ F1 _ q (stp_new ha) (rl.new ha)⟩
/-- two names of any kind at once, some of them new own objects, by a tuple -/
theorem s_parG2 {i j : Nat} {x y : Str} {px py pt : Pos} {kt k2 pt2} (hc : X.calm = true) (hN : X.N.Nodup) (hi : X.N[i]? = some x) (hj : X.N[j]? = some y)
    (hx : Loc X.env.scope x) (hy : Loc X.env.scope y) (ha : PA X [a, b] (tVs (gx X C) W ms))
    (hs : swapsWithSole [.Tuple [.Name x px, .Name y py] kt pt] (.Tuple [a, b] k2 pt2) pos.line X.env = pure false := by rfl)
    (hw : swappedStores [.Tuple [.Name x px, .Name y py] kt pt] (.Tuple [a, b] k2 pt2) X.env = pure none := by rfl)
    (h1 : (assignEach [.Tuple [.Name x px, .Name y py] kt pt] X.env).map (·.2) = [assign (.Tuple [.Name x px, .Name y py] kt pt) X.env] := by rfl)
    (hn : (assignEach [.Name x px, .Name y py] X.env).length = 2 := by rfl) (hst : (assignEach [.Name x px, .Name y py] X.env).findIdx? (·.1) = none := by rfl)
    (e1 : (assignEach [.Name x px, .Name y py] X.env).map (·.2) = assign (.Name x px) X.env :: (assignEach [.Name y py] X.env).map (·.2) := by rfl)
    (e2 : (assignEach [.Name y py] X.env).map (·.2) = assign (.Name y py) X.env :: (assignEach [] X.env).map (·.2) := by rfl)
    (f1 : X.fn x = true ∨ X.env.scope.names.lookup x = some .local := by first | exact .inl rfl | exact .inr rfl | assumption)
    (f2 : X.fn y = true ∨ X.env.scope.names.lookup y = some .local := by first | exact .inl rfl | exact .inr rfl | assumption) :
    PS X (.Assign [.Tuple [.Name x px, .Name y py] kt pt] (.Tuple [a, b] k2 pt2) pos) (tS (gx X C) W (parM [i, j] ms)) :=
  psImp (ps_asg (DLt.pf_tup ha) (pg_tup (n := 2) hc (pgs_cons (pg_name hN hi hx f1) (pgs_cons (pg_name hN hj hy f2) pgs_nil e2) e1) hn hst) hs hw h1) fun Z σ H h => (par_reads2 h).imp fun vs H1 ⟨l, q⟩ => by
    match vs, l, q with
    | [v, w], _, q =>
      refine ⟨by show 2 ≤ sizeLine; rw [sizeLine_eq]; decide, fun ob a hd hn => ?_⟩
      exact ⟨a, [v, w], rfl, .inl (.inr ⟨ob, upd_same⟩), rfl, v, [w], rfl, w, [], rfl, rfl, q a _ hn⟩
    | [], l, _ => cases l
    | [_], l, _ => cases l
    | _ :: _ :: _ :: _, l, _ => simp at l
end
end DL

set_option Elab.async false
set_option linter.all false
set_option maxRecDepth 100000
set_option maxHeartbeats 2000000
/-! own.index(x), items of plain kinds -/
namespace DL
open PySem PySem.Spec PyProof.Rows L2
variable [Tbs]
def oidxM (i : Nat) (mb : M D) : M D := bnd (olist i) fun _ => bnd mb fun d => bnd (olist i) fun ds => idxL ds d
section
variable {X : Cx} {C : Addr} {W : WX} {a b : Expr} {mb : M D} {apos cpos : Pos} {i : Nat}
theorem e_oidx (ha : PE X a (tVar i)) (hb : PE X b (tD (gx X C) W mb)) (hbase : attributeBase a "index" X.env (eval a X.env) = eval a X.env := by rfl)
    (hfew : ((backTo cpos (starEach [b] X.env)).all (fun x => !x.1) && (backToKw cpos (keywordEach [] X.env)).all (fun x => x.1.isSome)
      && decide ([b].length + ([] : List Keyword).length + (if ([] : List Keyword).isEmpty then 0 else 1) < 30)) = true := by rfl)
    (hline : (apos.endLine == cpos.line) = true := by rfl) (hs : starEach [b] X.env = (false, eval b X.env) :: starEach [] X.env := by rfl) (hpl : (backTo cpos (starEach [] X.env)).any (·.1) = false := by rfl) :
    PE X (.Call (.Attribute a "index" apos) [b] [] cpos) (tD (gx X C) W (oidxM i mb)) :=
  peImp (pe_bm F.plainAttrs_list F.slot_list_index F.type_list_index mt_index ha (pa_cons hb pa_nil hs) hbase hfew hline hs hpl) fun σ H Q ⟨B, F, env, h⟩ => by
    obtain ⟨q, _, vs0, e1, hv0, _, _, h⟩ := Pt.olist h
    refine ⟨_, e1, .inl ⟨rfl, vs0, SqL.of hv0⟩, (h.bind (Ra := RD (gx X C)) (as := []) (xs := []) rfl).imp fun y H2 ⟨F2, env2, yd, p2, _, ry⟩ => ?_⟩
    obtain ⟨q', ds, vs, e1', hv, rv, own, p3⟩ := p2.olist
    rw [e1] at e1'; cases e1'
    obtain ⟨⟨fy, fds, hit⟩, p3⟩ := p3.asked
    have lt : ds.findIdx (fun d => eqv d yd) < ds.length := List.findIdx_lt_length_of_exists (by simpa using hit)
    obtain ⟨w, hw, rw'⟩ := rv.get (List.getElem?_eq_getElem lt)
    have fl : ∀ d ∈ ds, flatD d = true := by simpa using fds
    refine ⟨q, vs, y, ds.findIdx (fun d => eqv d yd), w, rfl, rfl, SqL.of hv, flat_of ry fy, flats_of rv fds, hw, ?_, fun m z hm hz => ?_, p3.pure (b := .int _) rfl⟩
    · rw [eqv_flat rw' ry (fl _ (List.getElem_mem lt)) fy]
      exact List.findIdx_getElem (w := lt)
    · obtain ⟨d, hd, rd'⟩ := rp_at rv hz
      obtain ⟨hm', hd'⟩ := List.getElem?_eq_some_iff.mp hd
      rw [eqv_flat rd' ry (fl _ (hd' ▸ List.getElem_mem hm')) fy]
      have := List.not_of_lt_findIdx hm
      rw [hd'] at this
      simpa using this
end
end DL

set_option Elab.async false
set_option linter.all false
set_option maxRecDepth 100000
set_option maxHeartbeats 2000000
/-! A comprehension over an own list that goes on being one's own. -/
namespace DL
open PySem PySem.Spec PyProof.Rows L2
variable [Tbs]
def compMO (i : Nat) (tg : D → M Unit) (vs : List Nat) (cond : M Bool) (elt : M D) : M O := fun env Q E => match env[i]? with
  | some (.ow (.lst ds)) => compL tg vs cond elt ds [] (env.set i .no) (fun acc env2 => Q (.lst acc) ((backE (env.set i .no) env2 vs).set i (.ow (.lst ds)))) fun _ _ => False
  | _ => False
section
variable {G : Gx} {B F : Addr → Prop} {σ : L2.St} {H : Hp} {env : List Slot} {a : Addr} {i : Nat} {ds : List D} {vs : List V} {K : PySem.W.Frag}
theorem set_here {x : Option V} (h : σ[i]? = some x) : σ.set i x = σ := by
  refine List.ext_getElem? fun j => ?_
  by_cases e : i = j
  · subst e; rw [List.getElem?_set_self (List.getElem?_eq_some_iff.mp h).1, h]
  · rw [List.getElem?_set_ne e]
theorem Rel.lend (rel : Rel G B F σ env H) {o : O} (e : env[i]? = some (.ow o)) (ea : σ[i]? = some (some (.ref a))) (hs : Nt H a) : Rel G (fun b => B b ∨ b = a) F σ (env.set i .no) H := by
  have r1 := rel.drop i (some (.ref a))
  rw [set_here ea] at r1
  refine r1.more hs fun j ⟨⟨s, es, k⟩, ej⟩ => ?_
  by_cases z : i = j
  · subst z
    rw [List.getElem?_set_self (List.getElem?_eq_some_iff.mp e).1] at es
    cases es; cases k
  · rw [List.getElem?_set_ne z] at es
    exact z (rel.ap i j a ⟨⟨_, e, rfl⟩, ea⟩ ⟨⟨s, es, k⟩, ej⟩)
theorem Rel.unlend {o : O} (rel : Rel G (fun b => B b ∨ b = a) F σ env H) (ea : σ[i]? = some (some (.ref a))) (nF : ¬ F a) (nB : ¬ B a) (ho : OwAt G F H a o) : Rel G B F σ (env.set i (.ow o)) H := by
  have r1 := (rel.less fun b z => Or.inl z).setO (i := i) nF nB ho fun j own => (rel.ownSome own).2.2 (.inr rfl)
  rwa [set_here ea] at r1
theorem ok_own (hB : B a) (h1 : H a = some (.lst vs)) (h2 : RpL G F H ds vs) : ItOk G (Itl K a) ds B F H := fun F' H' s i => by
  have q1 : H' a = some (.lst vs) := s.hk a _ (.inl hB) h1
  have q2 : RpL G F' H' ds vs := RpL.mono s ds vs h2
  refine ⟨fun d hd => ?_, fun hl => ⟨vs, SqL.of q1, by rw [← q2.length]; exact hl⟩⟩
  obtain ⟨v, hv, rv⟩ := q2.get hd
  refine ⟨⟨vs, v, SqL.of q1, hv⟩, fun x H'' ⟨e, y⟩ => ?_⟩
  subst e
  have z := y vs (SqL.of q1)
  rw [hv] at z
  cases z
  exact ⟨Stp.refl, fun _ _ h => h, rv⟩
end
section
variable {X : Cx} {C : Addr} {W : WX} {tg e elt : Expr} {ifs : List Expr} {is : List Nat} {scope : Scope} {own : List (Str × Nat)} {pos : Pos} {mt : M Bool} {md : M D} {i : Nat}
theorem compO_reads {k : D → M Unit} {σ : L2.St} {H : Hp} {Q : V → Hp → Prop} (hsub : ∀ i ∈ is, i ∈ own.map (·.2)) (nox : ∀ d env Q E, k d env Q E → k d env Q (fun _ _ => False))
    (h : tO (gx X C) W (compMO i k (own.map (·.2)) mt md) σ H Q) : tLc (fun σ H R => tVar i σ H fun x H1 => ∃ a, x = .ref a ∧ (∃ vs, SqL X.K H1 a vs) ∧ R (Itl X.K a) H1) (tTo (gx X C) is k) (tBl (gx X C) W0 mt) (tD (gx X C) W0 md) (own.map (·.2)) σ H Q := by
  generalize own.map (·.2) = vs at hsub h
  obtain ⟨B, F, env, Qd, Ed, rel, hm, hq, he⟩ := h
  unfold compMO at hm
  split at hm
  case h_2 => exact hm.elim
  case h_1 ds ei =>
  obtain ⟨a, ea, nFa, nBa, us, hv, rv⟩ := rel.sl i _ ei
  refine ⟨.ref a, ea, a, rfl, ⟨us, SqL.of hv⟩, fun D hD => ?_⟩
  have nDa : D ≠ a := fun z => by rw [z, hv] at hD; cases hD
  have rel1 := rel.lend ei ea (Nt.of hv)
  have it := ok_own (K := X.K) (G := gx X C) (B := fun b => B b ∨ b = a) (F := F) (Or.inr rfl) hv rv
  have hc := hm
  clear hm
  generalize henv1 : env.set i .no = env1 at hc rel1 hq
  have nB : ¬ (B D ∨ D = a) := rel1.notB hD
  have nF : ¬ F D := rel1.notF hD
  refine ⟨fun j m H2 => m = ds.length - j ∧ j ≤ ds.length ∧ ∃ F2 σ2 env2 accD acc, H2 D = some (.lst acc) ∧ RpL (gx X C) F2 H2 accD acc ∧ Rel (gx X C) (fun b => (B b ∨ b = a) ∨ b = D) F2 σ2 env2 H2 ∧ wipe σ2 vs = wipe σ vs ∧ Stp (fun b => B b ∨ b = a) F H F2 H2 ∧ ¬ F2 D ∧
    compL k vs mt md (ds.drop j) accD env2 (fun acc env2 => Qd (.lst acc) ((backE env1 env2 vs).set i (.ow (.lst ds)))) (fun _ _ => False),
    ⟨_, rfl, Nat.zero_le _, F, σ, env1, [], [], upd_same, rfl, (rel1.new hD).more (Nt.of upd_same) (fun j o => (rel1.ownSome o).1 hD), rfl, stp_new hD, nF, hc⟩, ?_⟩
  rintro j m H2 ⟨rfl, hi, F2, σ2, env2, accD, acc, eD, racc, rel2, hw, st2, nF2, hc2⟩
  obtain ⟨go, stop⟩ := it F2 H2 st2 j
  by_cases hl : j < ds.length
  · obtain ⟨g1, g2⟩ := go ds[j] (List.getElem?_eq_getElem hl)
    refine .inr ⟨g1, fun H' => j + 1 ≤ ds.length ∧ ∃ F2 σ2 env2 accD acc, H' D = some (.lst acc) ∧ RpL (gx X C) F2 H' accD acc ∧ Rel (gx X C) (fun b => (B b ∨ b = a) ∨ b = D) F2 σ2 env2 H' ∧ wipe σ2 vs = wipe σ vs ∧ Stp (fun b => B b ∨ b = a) F H F2 H' ∧ ¬ F2 D ∧
      compL k vs mt md (ds.drop (j + 1)) accD env2 (fun acc env2 => Qd (.lst acc) ((backE env1 env2 vs).set i (.ow (.lst ds)))) (fun _ _ => False), fun H' ⟨x, y⟩ => ⟨_, by omega, rfl, x, y⟩, fun x H3 y => ?_⟩
    obtain ⟨st3, kp, rx⟩ := g2 x H3 y
    have st3' : Stp (fun b => (B b ∨ b = a) ∨ b = D) F2 H2 F2 H3 := stp_keep kp
    have rel3 : Rel (gx X C) (fun b => (B b ∨ b = a) ∨ b = D) F2 (wipe σ vs) (wipeE env2 vs) H3 := by
      rw [← hw]
      refine (rel2.step st3' (fun j b o => ⟨?_, (rel2.ownSome o).2.1⟩) fun b z => st3'.hs b (.inr z) (rel2.hF b z)).wipe vs
      obtain ⟨n, _, _⟩ := rel2.ownSome o
      cases e : H2 b with
      | none => exact absurd e n
      | some u => exact kp b u e
    have hc3 : compL k vs mt md (ds[j] :: ds.drop (j + 1)) accD env2 (fun acc env2 => Qd (.lst acc) ((backE env1 env2 vs).set i (.ow (.lst ds)))) (fun _ _ => False) := by
      rw [← List.drop_eq_getElem_cons hl]; exact hc2
    have racc3 : RpL (gx X C) F2 H3 accD acc := RpL.mono st3 _ _ racc
    refine ⟨fun b => (B b ∨ b = a) ∨ b = D, F2, _, ds[j], _, rel3, rx, nox _ _ _ _ hc3, fun env4 σ4 q4 rel4 hl4 ho4 => ?_⟩
    have hw4 : wipe σ4 vs = wipe σ vs := (wipe_eq hl4 fun j hj => ho4 j fun z => hj (hsub j z)).trans wipe_wipe
    refine ⟨hw4, fun b => (B b ∨ b = a) ∨ b = D, F2, env4, _, _, rel4, q4, fun c env5 b F5 H5 q5 st5 rel5 rb => ?_, fun x env' cls d F' H' q st rl r => (show False from q).elim⟩
    cases (show c = b from rb)
    have hD5 : H5 D = some (.lst acc) := st5.hk D _ (.inl (.inr rfl)) (kp D _ eD)
    have nF5 : ¬ F5 D := fun z => (st5.fn D z).elim nF2 fun n => n (.inr rfl)
    have racc5 : RpL (gx X C) F5 H5 accD acc := RpL.mono st5 _ _ racc3
    have sAll : Stp (fun b => B b ∨ b = a) F H F5 H5 := st2.trans (st3.trans (st5.less fun _ z => .inl z))
    cases c with
    | false =>
      rw [if_neg Bool.false_ne_true] at q5 ⊢
      exact ⟨hl, F5, σ4, env5, accD, acc, hD5, racc5, rel5, hw4, sAll, nF5, q5⟩
    | true =>
      rw [if_pos rfl] at q5 ⊢
      refine ⟨fun b => (B b ∨ b = a) ∨ b = D, F5, env5, _, _, rel5, q5, fun yd env6 yv F6 H6 q6 st6 rel6 ry => ?_, fun x env' cls d F' H' q st rl r => (show False from q).elim⟩
      obtain ⟨lz, q6⟩ := q6
      have hD6 : H6 D = some (.lst acc) := st6.hk D _ (.inl (.inr rfl)) hD5
      have nF6 : ¬ F6 D := fun z => (st6.fn D z).elim nF5 fun n => n (.inr rfl)
      have racc6 : RpL (gx X C) F6 H6 accD acc := RpL.mono st6 _ _ racc5
      have stw : Stp (fun b => B b ∨ b = a) F6 H6 F6 (upd H6 D (.lst (acc ++ [yv]))) := stp_own nF6 nB (fun vs h => by rcases h with h | ⟨o, h⟩ <;> (rw [hD6] at h; cases h)) (fun ps z => by rw [hD6] at z; cases z) fun q z => by rw [hD6] at z; have z2 : _ = HO.ext _ := Option.some.inj z; cases z2
      refine ⟨acc, hD6, by rw [← racc6.length]; exact lz, hl, F6, σ4, env6, accD ++ [yd], acc ++ [yv], upd_same, (RpL.mono stw _ _ racc6).snoc (Rp.mono stw _ _ ry), ?_, hw4, (sAll.trans (st6.less fun _ z => .inl z)).trans stw, nF6, q6⟩
      refine (Rel.more ((rel6.less fun _ z => .inl z).step stw (fun j b o => ⟨upd_ne fun z => by subst z; exact (rel6.ownSome o).2.2 (.inr rfl), (rel6.ownSome o).2.1⟩) fun b z => stw.hs b (.inr z) (rel6.hF b z)) (Nt.of upd_same) fun j o => (rel6.ownSome o).2.2 (.inr rfl))
  · have e : j = ds.length := by omega
    subst e
    rw [List.drop_length] at hc2
    refine .inl ⟨stop (Nat.le_refl _), ?_⟩
    have rel2' : Rel (gx X C) (fun b => B b ∨ b = a) F2 σ2 env2 H2 := rel2.less fun _ z => .inl z
    have nF2a : ¬ F2 a := fun z => (st2.fn a z).elim nFa fun n => n (.inr rfl)
    have hv2 : H2 a = some (.lst us) := st2.hk a _ (.inl (.inr rfl)) hv
    have relB := rel1.back st2 rel2' hw
    have stB : Stp B F H F2 H2 := st2.less fun _ z => .inl z
    refine hq (.lst accD) _ (.ref D) F2 H2 hc2 stB (relB.unlend ea nF2a nBa ⟨us, hv2, RpL.mono st2 _ _ rv⟩) ⟨D, rfl, nF2, fun z => nB (.inl z), ⟨acc, eD, racc⟩, fun j' ⟨⟨s, es, o⟩, ej⟩ => ?_⟩
    by_cases hji : i = j'
    · subst hji
      rw [ea] at ej
      cases ej
      exact nDa rfl
    · rw [List.getElem?_set_ne hji] at es
      by_cases hj : j' ∈ vs
      · have q := backE_in hj es
        subst q
        unfold oldS at o
        cases z : env1[j']? with
        | none => rw [z] at o; cases o
        | some s => rw [z] at o; cases s <;> cases o
      · rw [backE_out hj] at es
        exact (rel2.ownSome ⟨⟨s, es, o⟩, by rw [wipe_same hw hj]; exact ej⟩).2.2 (.inr rfl)
theorem o_lcO {k : D → M Unit} (hc : X.calm = true) (hN : X.N.Nodup) (hi : PE X e (tVar i)) (ok : BlkOk X.N X.env.scope scope own) (hsub : ∀ i ∈ is, i ∈ own.map (·.2)) (nox : ∀ d env Q E, k d env Q E → k d env Q (fun _ _ => False))
    (hg : ∀ (s : Shared) (H : Hp) (c : Addr) (cl : List (Str × Addr)) (fp : List Addr), PG (X.blk s H scope (compEnvC scope cl c X.env) fp) tg (tTo (gx X C) is k)) (ht : ∀ (s : Shared) (H : Hp) (c : Addr) (cl : List (Str × Addr)) (fp : List Addr), PTs (X.blk s H scope (compEnvC scope cl c X.env) fp) ifs (tBl (gx X C) W0 mt))
    (he : ∀ (s : Shared) (H : Hp) (c : Addr) (cl : List (Str × Addr)) (fp : List Addr), PE (X.blk s H scope (compEnvC scope cl c X.env) fp) elt (tD (gx X C) W0 md)) (hs : ∀ x, foldedSetIterable e X.env x = pure x := by intro _; rfl) :
    PE X (.ListComp elt [⟨tg, e, ifs, 0⟩] scope pos) (tO (gx X C) W (compMO i k (own.map (·.2)) mt md)) := peImp (pe_lc hc hN (pi_list hi) ok hg ht he hs) fun σ H Q h => compO_reads hsub nox h
end
end DL

set_option Elab.async false
set_option linter.all false
set_option maxRecDepth 100000
set_option maxHeartbeats 2000000
/-! len(hall), len(range(n)). -/
namespace DL
open PySem PySem.Spec PyProof.Rows L2
variable [Tbs]
section
variable {X : Cx} {C : Addr} {W : WX} {o e : Expr} {md : M D} {p pos p2 pos2 : Pos} {k : Nat} {f : Addr} {fd : FuncData} {ps : List Str} {df : DF}
theorem special_def {K : PySem.W.Frag} {prog : Program} {w : World} {A : Around} {E : Value → Shared → Prop} {s : Shared} {a : Addr} {ox : Obj} {od : Option Obj} {name : Str} {args : List Value} {Q : Option Value → Shared → Prop} (kin : K.In s.heap) (J : PySem.W.InstAt s.heap a ox C od)
    (hf : PySem.W.findIn K (.ref C) name = some (some (.ref f))) (tf : PySem.W.typeIn K (.ref f) = some (.type "function")) (hc : wpAny (model prog w) A (call (.ref f) (.ref a :: args)) (fun v s' => Q (some v) s') E s) : wpAny (model prog w) A (callSpecial? (.ref a) name args) Q E s := by
  unfold callSpecial? specialOf
  refine wpAny_bind (wpAny_bind (J.type.here ((PySem.W.looks_findIn kin hf).here (wpAny_holding (wpAny_bind ((PySem.W.bind_fn kin (.ref a) tf).here ?_))))))
  exact wpAny_bind (wpAny_mono hc (fun v s' h => wpAny_pure h) fun _ _ z => z)
theorem len_inst {prog : Program} {w : World} {A : Around} {E : Value → Shared → Prop} {s : Shared} {a : Addr} {Q : Value → Shared → Prop}
    (hc : ∀ (Q' : Option Value → Shared → Prop) (E : Value → Shared → Prop), wpAny (model prog w) A.in1 (call (.ref f) [.ref a]) (fun v s' => Q' (some v) s') E s → wpAny (model prog w) A.in1 (callSpecial? (.ref a) (Str.ofString "__len__")) Q' E s)
    (h : wpAny (model prog w) A.in1 (call (.ref f) [.ref a]) (fun r s' => ∃ n u, r = .int n u ∧ 0 ≤ n ∧ n < 2 ^ 63 ∧ Q (.int n s'.toks) { s' with toks := s'.toks + 1 }) E s) :
    wpAny (model prog w) A (call (.builtin "len") [.ref a]) Q E s := by
  refine Calls.call_function_entry kind_len plain_len entry_len (args_len1 _) ?_
  unfold Builtin.«len»
  refine wpAny_bind (m := oneArg "len" _) (wpAny_pure (wpAny_bind (m := callSpecial? (.ref a) (Str.ofString "__len__")) (hc _ _ (wpAny_mono h (fun r s' hr => ?_) fun _ _ y => y))))
  obtain ⟨n, u, rfl, h0, h1, hq⟩ := hr
  refine wpAny_bind (wpAny_holding (wpAny_pure (wpAny_bind (wpAny_letGo ?_))))
  show wpAny _ _ (if n < 0 then _ else _) _ _ _
  rw [if_neg (by omega)]
  show wpAny _ _ (if n ≥ 2 ^ 63 then _ else _) _ _ _
  rw [if_neg (by omega)]
  exact wpAny_bind (wpAny_mkInt (wpAny_pure ⟨_, rfl, hq⟩))
def lenR : Res → M D
  | .d (.int n) => ask (0 ≤ n ∧ n < 2 ^ 63) (ret (.int n))
  | _ => fail
/-- a value wanted as a length -/
theorem Pt.lenR {G : Gx} {B F : Addr → Prop} {σ : L2.St} {H : Hp} {env : List Slot} {Q : V → Hp → Prop} {r : Res} {v : V} (q : Pt G W (RD G) σ H Q (DL.lenR r) B F env) (rr : RRs G B F env σ H r v) : ∃ n, v = .int n ∧ 0 ≤ n ∧ n < 2 ^ 63 ∧ Q (.int n) H := by
  cases r with
  | d d =>
    cases d with
    | int n => exact ⟨n, rr, (Pt.asked q).1.1, (Pt.asked q).1.2, (Pt.asked q).2.pure (b := .int n) rfl⟩
    | _ => exact (Pt.no q).elim
  | o o => exact (Pt.no q).elim
/-- len(hall) -/
theorem e_hlen (hk : HallK X.K C) (Fn : FnG X.prog X.w X.K X.mg X.base k f fd ps (spD (gx X C) 1 df)) (hr : Room (k + 1) X.A) (hG : X.A.guards = some []) (tk : L2N.Takes X W) (hm : Meth X.K C "__len__" f) (hb : Binds X.K fd ps []) (hn : 1 = ps.length)
    (hg : Gl X "len") (hmg : X.mg "len" = none) (he : PE X o (tD (gx X C) W md)) (na : starEach [o] X.env = (false, eval o X.env) :: starEach [] X.env := by rfl) (hpl : (backTo pos (starEach [] X.env)).any (·.1) = false := by rfl) :
    PE X (.Call (.Name "len" p) [o] [] pos) (tD (gx X C) W (bnd (bnd md (hcallM df)) lenR)) := by
  refine ⟨fun pins s σ H Q I h => ?_⟩
  refine Call_ (ld_blt I hg hmg boot_len (PyProof.Rows.callWith_builtin1 (one_arg he I (lift1 (Ra := RD (gx X C)) h) (fun u s1 v H1 I1 ru ⟨B, F, env, d, q, rd⟩ => ?_) na) na hpl))
  cases d with
  | hall g sp =>
    obtain ⟨a, dx, ea, hF, h1⟩ := id rd
    subst ea
    obtain rfl : u = Value.ref a := ru
    obtain ⟨mA, O, _⟩ := ins_get I1.hok h1
    obtain ⟨od, J, _⟩ := O.look
    have q : Pt (gx X C) W (RD (gx X C)) σ H1 Q (bnd (callD df [.hall g sp]) lenR) B F env := q
    refine len_inst (f := f) (fun Q' E' hc => special_def I1.kIn J hm.at_ (beq_iff_eq.mp hm.fn) hc) ?_
    have hb' := hb s1 [.ref a] I1.kIn (by rw [List.append_nil]; exact hn)
    rw [List.append_nil] at hb'
    have pc := (q.bindP (Ra := RRs (gx X C)) (as := []) (xs := []) rfl).imp fun v H2 ⟨F2, env2, r2, p2, _, rr2⟩ => p2.lenR rr2
    have e1 : Env0 X.prog X.w X.K X.mg X.base X.A.in1 X.stack s1 H1 := let e := I1.env0; ⟨e.frames, e.mod, e.bs, e.bsz, e.funs, e.frf, e.hok, e.bare⟩
    refine wpAny_call (codeAny_mono (Fn.run X.A.in1 X.stack s1 H1 ⟨[.ref a], []⟩ [.ref a] [.ref a] _ (WE W σ) hr.in1 hG e1 hb' (.cons rfl .nil) (Pt.callD (vs := [.ref a]) pc ⟨_, [], rfl, rd, rfl⟩ rfl)) fun rr s' hq => ?_)
    match rr, hq with
    | .error ex, hq => exact L2N.passAt tk σ pins H1 s1 ex s' I1 hq
    | .ok (.ret w), hq =>
      obtain ⟨v, H2, I2, rv, n, ev, n0, n1, qq⟩ := I1.after hq
      subst ev
      obtain ⟨t, rfl⟩ := rv
      exact ⟨n, t, rfl, n0, n1, .int n, H2, I2.tok _, ⟨_, rfl⟩, qq⟩
    | .ok .next, hq => exact hq.elim
    | .ok .brk, hq => exact hq.elim
    | .ok .cont, hq => exact hq.elim
  | _ => exact (Pt.unknown (k := lenR) q).elim
/-- len(range(e)) -/
def lenRg : D → M D
  | .int n => ask (-(2 ^ 62) ≤ n ∧ n < 2 ^ 62) (ret (.int (if 0 < n then n else 0)))
  | _ => fail
theorem e_lenRg (hg : Gl X "len") (hmg : X.mg "len" = none) (hg2 : Gl X "range") (hmg2 : X.mg "range" = none) (he : PE X e (tD (gx X C) W md)) (na2 : starEach [e] X.env = (false, eval e X.env) :: starEach [] X.env := by rfl)
    (na : starEach [.Call (.Name "range" p2) [e] [] pos2] X.env = (false, eval (.Call (.Name "range" p2) [e] [] pos2) X.env) :: starEach [] X.env := by rfl) (hpl : (backTo pos (starEach [] X.env)).any (·.1) = false := by rfl) :
    PE X (.Call (.Name "len" p) [.Call (.Name "range" p2) [e] [] pos2] [] pos) (tD (gx X C) W (bnd md lenRg)) := by
  refine ⟨fun pins s σ H Q I h => ?_⟩
  refine Call_ (ld_blt I hg hmg boot_len (PyProof.Rows.callWith_builtin1 (PyProof.Rows.args_cons (thn (prg_1 (p := p2) (pos := pos2) hg2 hmg2 he na2 pins s σ H (fun lo hi H1 => lo = 0 ∧ -(2 ^ 62) ≤ hi ∧ hi < 2 ^ 62 ∧ Q (.int (if 0 < hi then hi else 0)) H1) I ?_) fun x s1 ⟨r, lo, hi, t, u, v, H1, ex, ir, J1, e0, b1, b2, qq⟩ => PyProof.Rows.args_nil ?_) na) na hpl))
  · refine (lift1 (Ra := RD (gx X C)) h).imp fun x H1 ⟨B, F, env, d, q, rd⟩ => ?_
    cases d with
    | int n => exact ⟨n, rd, rfl, (Pt.asked q).1.1, (Pt.asked q).1.2, (Pt.asked q).2.pure (b := .int _) rfl⟩
    | _ => exact (Pt.no q).elim
  · subst ex e0
    have e1 : ((hi.toNat : Nat) : Int) = if 0 < hi then hi else 0 := by split <;> omega
    refine call_len_range (n := hi.toNat) ir ?_ (by omega) ⟨.int (hi.toNat : Nat), H1, J1.kept fun b o z => z, ⟨_, rfl⟩, by rw [e1]; exact qq⟩
    rw [rangeSize_one, e1, Int.sub_zero]
end
end DL

set_option Elab.async false
set_option linter.all false
set_option maxRecDepth 100000
set_option maxHeartbeats 2000000
/-! Exceptions of own classes: made, raised. -/
namespace DL
open PySem PySem.Spec PyProof.Rows L2
variable [Tbs]

/-- the built-in at an own exception class's end -/
inductive Bt where
  | ve | le | ae
def Bt.nm : Bt → String
  | .ve => "ValueError" | .le => "LookupError" | .ae => "ArithmeticError"
def Bt.newId : Bt → String
  | .ve => "ValueError.__new__" | .le => "LookupError.__new__" | .ae => "ArithmeticError.__new__"
def Bt.initId : Bt → String
  | .ve => "ValueError.__init__" | .le => "LookupError.__init__" | .ae => "ArithmeticError.__init__"
def Bt.mro : Bt → List Value
  | .ve => [.type "ValueError", .type "Exception", .type "BaseException", .type "object"]
  | .le => [.type "LookupError", .type "Exception", .type "BaseException", .type "object"]
  | .ae => [.type "ArithmeticError", .type "Exception", .type "BaseException", .type "object"]
theorem Bt.exc : ∀ b : Bt, ExcBaseFacts b.nm b.newId b.initId b.mro
  | .ve => PySem.F.excBase_ValueError
  | .le => PySem.F.excBase_LookupError
  | .ae => PySem.F.excBase_ArithmeticError
theorem Bt.store : ∀ b : Bt, StoreFacts b.nm b.mro "object.__setattr__" "object"
  | .ve => PySem.F.store_ValueError
  | .le => PySem.F.store_LookupError
  | .ae => PySem.F.store_ArithmeticError
/-- what the written part says of an own exception class -/
structure ExK (K : PySem.W.Frag) (b : Bt) (C : Addr) : Prop where
  it : PySem.W.excInitIn K C b.mro b.newId = true
  ov : PySem.W.excOver K C b.mro = true
  dc : PySem.W.hasDictIn K C = true
  sa : PySem.W.findIn K (.ref C) "__setattr__" = some (some (.builtin "object.__setattr__"))
  be : PySem.W.subIn K (.ref C) (.type "BaseException") = some true
  ty : PySem.W.typeIn K (.ref C) = some (.type "type")
  kp : PySem.W.keepIn K (.ref C) = true
section
variable {prog : Program} {w : World} {A : Around} {R : Result → Shared → Prop} {hp : Heap} {g : Array GenState} {d : Drawn} {t : Nat} {os : OsState} {K : PySem.W.Frag} {b : Bt} {C : Addr}
/-- the first field's store -/
theorem osaB {name : Str} {tk : Tok} {v : Value} {x t1 : Addr} (kin : K.In hp) (ox : hp.get? x = some (PySem.W.excObj C t1 none .none)) (T : ExK K b C) (nt : PySem.W.takerIn K C name = some none)
    (go : ∀ h' tk' dx, (∀ c o, c ≠ x → hp.get? c = some o → h'.get? c = some o) → hp.objs.size ≤ dx → dx ≠ x → h'.get? x = some (PySem.W.excObj C t1 (some dx) .none) → h'.Ns1 dx (fun y => if y = name then some v else none) → R (.ok (.ret .none)) ⟨h', g, d, tk', os⟩) :
    codeAny (model prog w) A (.call (.builtin "object.__setattr__") ⟨[.ref x, .str name tk, v], []⟩) R ⟨hp, g, d, t, os⟩ := by
  have nx : x ≠ hp.objs.size := Nat.ne_of_lt (Heap.lt_size ox)
  obtain ⟨cd, hc, hd⟩ := PySem.W.any_some T.dc
  refine PySem.W.osa_openX (s := ⟨hp, g, d, t, os⟩) (od := none) b.store kin ⟨ox, rfl, rfl, trivial⟩ T.ov nt fun _ => ?_
  refine wpAny_bind (wpAny_pure (wpAny_bind (PySem.W.instanceDict_exc ox (PySem.W.looks_clsIn kin hc) hd ?_)))
  refine PySem.HandSPX.store_in_new ⟨_, #[], _, (Heap.get?_update_ne _ _ _ _ nx.symm).trans (Heap.get?_push_at rfl rfl), rfl, fun e z => absurd z (by simp), fun _ => rfl⟩ fun h' tk' n1 sb => ?_
  have o1 : (hp.push (PySem.W.dictOf [] 0)).get? x = some (PySem.W.excObj C t1 none .none) := Heap.get?_push_of_some _ ox
  refine go h' tk' hp.objs.size (fun c o nc e => ?_) (Nat.le_refl _) nx.symm ?_ n1
  · exact (sb.2 c (Nat.ne_of_lt (Heap.lt_size e))).trans ((Heap.get?_update_ne _ _ _ _ nc).trans (Heap.get?_push_of_some _ e))
  · exact (sb.2 x nx).trans (Heap.get?_update_self _ o1 rfl)
end
section
variable {X : Cx} {pins : List (Addr × Obj)} {σ : L2.St} {H : Hp} {s : Shared} {a C dx : Addr} {b : Bt} {f : Str} {y : V} {u : Value} {A : Around} {E : Value → Shared → Prop}
/-- self.f = y on an exception without a dict -/
theorem ostB {Q : Unit → Shared → Prop} (T : ExK X.K b C) (I : Inv X pins σ H s) (e : H a = some (exo a C none)) (nt : PySem.W.takerIn X.K C f = some none) (ry : RelV y u)
    (go : ∀ dx s', H dx = none → dx ≠ a → Inv X pins σ (upd (upd H dx (exd dx [(f, y)])) a (exo a C (some dx))) s' → Q () s') : wpAny (model X.prog X.w) A (setAttr (.ref a) f u) Q E s := by
  obtain ⟨t1, look⟩ := exo_at I.hok e
  refine PySem.W.set_plain I.kIn (ox := PySem.W.excObj C t1 none .none) (od := none) ⟨look, rfl, rfl, trivial⟩ T.sa ?_
  refine osaB (hp := s.heap) (os := s.os) I.kIn look T nt fun h' tk' dx stay above ne hx hn => ?_
  have fresh : H dx = none := I.hok.fresh above
  have below : ∀ {c : Addr} {o : Obj}, s.heap.get? c = some o → c ≠ dx := fun {c o} q z => absurd (Heap.lt_size q) (Nat.not_lt.mpr (z ▸ above))
  have other : ∀ {c : Addr}, H c = none → c ≠ a := fun {c} q z => by rw [z, e] at q; cases q
  have same : ∀ {c : Addr} {o : HO}, H c = some o → c ≠ a → upd (upd H dx (exd dx [(f, y)])) a (exo a C (some dx)) c = some o := fun {c o} q z => by
    rw [upd_ne z, upd_ne (ne_of_none q fresh)]; exact q
  have lives : ∀ c o, s.heap.get? c = some o → ∃ o', h'.get? c = some o' := fun c o q => (Decidable.em (c = a)).elim (fun z => ⟨_, z ▸ hx⟩) fun z => ⟨o, stay c o z q⟩
  refine go dx _ fresh ne (I.un (t' := tk') ⟨fun c o q n _ _ => stay c o (other n) q, fun c o q n _ _ => ⟨o.slots, stay c o (other n) q⟩, fun c o q n _ => ?_, fun c o q _ => lives c o q, fun c xs q => same q (at_ne e q exo_tup),
    fun c o v q => same q (at_ne e q exo_frz), fun c ps q => ⟨#[], (same q (at_ne e q exo_tbl)).trans (by simp)⟩⟩ fun c o q => ?_)
  · rw [upd_ne (other n), upd_ne (below q)]; exact n
  · by_cases ca : c = a
    · subst ca
      rw [upd_same] at q; cases q
      exact exo_ok hx
    · rw [upd_ne ca] at q
      by_cases cd : c = dx
      · subst cd
        rw [upd_same] at q; cases q
        exact exd_ok hn (relO_put (fs := []) ry fun _ => True.intro)
      · rw [upd_ne cd] at q
        refine (I.hok c o q).stay (fun c' v hc z => stay c' v ?_ z) (fun c' hc => same hc (at_ne e hc exo_own)) fun c' xs hc => same hc (at_ne e hc exo_tup)
        exact hc.elim (fun z => z ▸ ca) fun z => at_ne e z exo_own
/-- Base.__init__(self, ..) -/
theorem oinitB {us : List Value} {Q : Value → Shared → Prop} (T : ExK X.K b C) (I : Inv X pins σ H s) (e : H a = some (exo a C none)) (small : us.length ≤ sizeLine) (go : ∀ s', Inv X pins σ H s' → Q .none s') :
    wpAny (model X.prog X.w) A (call (.builtin b.initId) (.ref a :: us)) Q E s := by
  obtain ⟨nm, N, qn, bs, bm, hd, sn, sub, ab, col, dd, k0, k1, k2, k3, k5, hC, hT⟩ := PySem.W.excInit_of I.kIn T.it
  obtain ⟨t1, look⟩ := exo_at I.hok e
  refine wpAny_call (PySem.HandSPX.init_base (h := s.heap) (os := s.os) b.exc hT hC look small fun h' t2 stay hx => go _ ?_)
  have J := I.write (t' := s.toks) (x := a) (e := a) (o := exo a C none) (by rw [e]; trivial) (.inl rfl) stay ⟨_, hx⟩ (exo_ok hx)
  have back : upd H a (exo a C none) = H := funext fun c => (Decidable.em (c = a)).elim (fun z => by rw [z, upd_same, e]) fun z => upd_ne z
  rwa [back] at J
/-- what the written part says of an own base: its __init__ is the built-in's -/
structure BaK (K : PySem.W.Frag) (b : Bt) (B : Addr) : Prop where
  rd : ClX.CRead K B (.type "type")
  at_ : PySem.W.findCls K (.ref B) (.type "type") "__init__" = some (.val (.builtin b.initId))
theorem getB {pl : Sem Bool} {B : Addr} {Q : Value × List Value → Shared → Prop} (I : Inv X pins σ H s) (T : BaK X.K b B) (go : ∀ s', Inv X pins σ H s' → Q (.builtin b.initId, []) s') : wpAny (model X.prog X.w) A (getMethod (.ref B) "__init__" pl) Q E s :=
  PySem.W.method_cls I.kIn T.rd.ga (PySem.W.cls_value I.kIn T.rd.rd T.at_ (by cases b <;> rfl) (go _ (I.tok _)))
end

/-! ### def __init__(self, f): Base.__init__(self, 'text'); self.f = f -/
/-- what such a def promises -/
def initS (C : Addr) (f : Str) : Sp := fun vs H Q _ => ∃ a y, vs = [.ref a, y] ∧ H a = some (exo a C none) ∧ ∀ dx, H dx = none → dx ≠ a → Q .non (upd (upd H dx (exd dx [(f, y)])) a (exo a C (some dx)))
def tInit (C : Addr) (f : Str) : TS := fun D σ H => ∃ a y, σ[0]? = some (some (.ref a)) ∧ σ[1]? = some (some y) ∧ H a = some (exo a C none) ∧ ∀ dx, H dx = none → dx ≠ a → D.nx σ (upd (upd H dx (exd dx [(f, y)])) a (exo a C (some dx)))
section
variable {X : Cx} {C B : Addr} {b : Bt} {f base m : Str} {o o2 e : Expr} {j : Nat} {p p1 p2 p3 p4 pos pos2 pos3 : Pos}
theorem ps_init {pl : Sem Bool} (T : ExK X.K b C) (TB : BaK X.K b B) (hg : Gl X base) (hm : X.mg base = some (.ref B)) (v0 : PE X o (tVar 0)) (v02 : PE X o2 (tVar 0)) (v1 : PE X e (tVar 1)) (nt : PySem.W.takerIn X.K C f = some none) (hdb : (base == ("__debug__" : Str)) = false := by decide)
    (he : starEach [o, .Constant (.str m) j p] X.env = (false, eval o X.env) :: starEach [.Constant (.str m) j p] X.env := by rfl) (h2 : (backTo pos (starEach [.Constant (.str m) j p] X.env)).any (·.1) = false := by rfl)
    (hev : eval (.Call (.Attribute (.Name base p1) "__init__" p2) [o, .Constant (.str m) j p] [] pos) X.env = (do
      let ov ← eval (.Name base p1) X.env
      standAt p2.atName
      let (fn, first) ← holding [ov] (getMethod ov "__init__" pl)
      callWith pos fn first (backTo pos (starEach [o, .Constant (.str m) j p] X.env)) (backToKw pos (keywordEach [] X.env))) := by rfl)
    (hs2 : swapsWith (.Call (.Attribute (.Name base p1) "__init__" p2) [o, .Constant (.str m) j p] [] pos) none pos2.line X.env = pure false := by rfl)
    (hs : swapsWith e (some (.Attribute o2 f p4)) pos3.line X.env = pure false := by rfl) :
    PSs X [.Expr (.Call (.Attribute (.Name base p1) "__init__" p2) [o, .Constant (.str m) j p] [] pos) pos2, .Assign [.Attribute o2 f p4] e pos3] (tInit C f) := by
  have called : PE X (.Call (.Attribute (.Name base p1) "__init__" p2) [o, .Constant (.str m) j p] [] pos) (fun σ H Q => ∃ a, σ[0]? = some (some (.ref a)) ∧ H a = some (exo a C none) ∧ Q .non H) := ⟨fun pins s σ H Q I ⟨a, h0, ha, q⟩ => by
    refine PySem.W.methodCall_KW (ld_glob I hg hm (getB I TB fun s1 I1 => ?_) hdb) hev
    show wpAny _ _ (callWith pos (Value.builtin b.initId) [] (backTo pos (starEach [o, .Constant (.str m) j p] X.env)) []) _ _ _
    have args : PA X [o, .Constant (.str m) j p] (tCons (tVar 0) (tCons (tC (.str m)) tNil)) := pa_cons v0 (pa_cons pe_str pa_nil) he
    refine PyProof.Rows.callWith_method1 (thn (args.run pos pins s1 σ H (fun vs H1 => vs = [.ref a, .str m] ∧ H1 = H) I1 ⟨.ref a, h0, rfl, rfl⟩) fun us s2 ⟨vs, H1, I2, r, ev, eh⟩ => ?_) he h2
    subst ev eh
    cases r with
    | @cons _ u0 _ ur ra rr =>
      cases (show u0 = Value.ref a from ra)
      refine oinitB T I2 ha (by rw [← Paired.length rr, sizeLine_eq]; show 1 ≤ 16777216; decide) fun s3 I3 => ⟨.non, _, I3, rfl, q⟩⟩
  have stored : PS X (.Assign [.Attribute o2 f p4] e pos3) (tInit C f) := ⟨fun pins s σ H D I ⟨a, y, h0, h1, ha, q⟩ => by
    refine plainObj_wpAny_Assign_Attribute (thn (v1.run pins s σ H (fun v H1 => v = y ∧ H1 = H) I ⟨y, h1, rfl, rfl⟩) fun v s1 ⟨y1, H1, I1, r1, ey, eh⟩ => ?_) hs
    subst ey eh
    refine thn (v02.run pins s1 σ _ (fun v H2 => v = .ref a ∧ H2 = H1) I1 ⟨.ref a, h0, rfl, rfl⟩) fun u s2 ⟨x, H2, I2, r2, ex, eh⟩ => ?_
    subst ex eh
    cases (show u = Value.ref a from r2)
    exact ostB T I2 ha nt r1 fun dx s' n ne J => ⟨σ, _, J, q dx n ne⟩⟩
  exact pssImp (pss_cons (ps_expr called hs2) (pss_one stored)) fun D σ H ⟨a, y, h0, h1, ha, q⟩ => ⟨a, h0, ha, a, y, h0, h1, ha, q⟩
end
/-- THE RULE for such a def -/
theorem fnInit {P : Program} {w : World} {K : PySem.W.Frag} {mg : Str → Option Value} {h0 : Heap} {k : Nat} {fa C : Addr} {x qual fld : Str} {st : Stmt} {fd : FuncData} (Fn : Fun K x qual st fa fd) (S : FnScope ["self", fld] ["self", fld] (defScope st))
    (body : ∀ (cdv : Value) (A : Around) (outer : List Env) (s : Shared) (H : Hp) (E : XK), PSs (cxOf (L2N.CX P w) P w K mg h0 ["self", fld] qual (defScope st) fa cdv A outer s H E) (defBody st) (tInit C fld)) : FnG P w K mg h0 (k + 1) fa fd ["self", fld] (initS C fld) :=
  fnG_of Fn S (fun vs H Q E ⟨a, y, e, _⟩ => by subst e; rfl) fun cdv A outer s H vs Q E hr hG ⟨a, y, e, ha, q⟩ => ⟨_, body cdv A outer s H E, by subst e; exact ⟨a, y, rfl, rfl, ha, q⟩⟩

/-! ### raise C(e) -/
def raiseM (x f : Str) (m : M D) : M Fl := bnd m fun y env _ E => E ⟨x, some (f, y)⟩ env
section
variable {X : Cx} {C C0 fI : Addr} {b : Bt} {f x : Str} {e : Expr} {te : TE} {k : Nat} {fd : FuncData} {ps : List Str} {p pos pos2 : Pos} {W : WX} {m : M D}
def one (k : V → Hp → Prop) (vs : List V) (H : Hp) : Prop := match vs with
  | [y] => k y H
  | _ => False
theorem one_at {k : V → Hp → Prop} {vs : List V} {H : Hp} (h : one k vs H) : ∃ y, vs = [y] ∧ k y H := match vs, h with
  | [y], h => ⟨y, rfl, h⟩
  | [], h => (show False from h).elim
  | _ :: _ :: _, h => (show False from h).elim
theorem pmk_one (T : ExK X.K b C) (iC : PySem.W.findIn X.K (.ref C) "__init__" = some (some (.ref fI))) (tI : PySem.W.typeIn X.K (.ref fI) = some (.type "function")) (Fn : FnG X.prog X.w X.K X.mg X.base k fI fd ps (initS C f)) (hr : Room (k + 1) X.A) (hG : X.A.guards = some [])
    (hb : Binds X.K fd ps []) (hn : ps.length = 2) (hg : Gl X x) (hm : X.mg x = some (.ref C)) (he : PE X e te) (hdb : (x == ("__debug__" : Str)) = false := by decide) (na : starEach [e] X.env = (false, eval e X.env) :: starEach [] X.env := by rfl) (hpl : (backTo pos (starEach [] X.env)).any (·.1) = false := by rfl) :
    L2N.PMk X (.Call (.Name x p) [e] [] pos) (fun σ H Q => te σ H fun y H1 => ∀ dd, H1 dd = none → Q (.ref C) (some dd) (upd H1 dd (.xd [(f, y)]))) := by
  intro pins s σ H Q I h
  have args : PA X [e] (tCons te tNil) := pa_cons he pa_nil na
  refine wpAny_Call_Name_kw (ld_glob I hg hm (PySem.W.callWith_K (h₀ := X.base) I.ok.mod.kin T.kp (thn (args.run pos pins s σ H (one fun y H1 => ∀ dd, H1 dd = none → Q (.ref C) (some dd) (upd H1 dd (.xd [(f, y)]))) I ?_) fun us s1 ⟨vs, H1, I1, r1, q0⟩ => ⟨I1.kIn, ?_⟩) na hpl) hdb)
  · exact h
  · obtain ⟨y, ev, q⟩ := one_at q0
    subst ev
    show wpAny _ _ (call (.ref C) us) _ _ _
    obtain ⟨nm, N, qn, bs, bm, hd, sn, sub, ab, col, dd, k0, k1, k2, k3, k5, hC, hT⟩ := PySem.W.excInit_of I1.kIn T.it
    obtain ⟨hp, g, dr, tk, os⟩ := s1
    have sz : hp.objs.size ≤ hp.objs.size + 1 := Nat.le_succ _
    have fr : H1 (hp.objs.size + 1) = none := I1.hok.fresh sz
    have stay : ∀ b o, hp.get? b = some o → ((hp.push (PySem.W.kdv_tup us)).push (PySem.HandSPX.excO C hp.objs.size)).get? b = some o := fun b o z => Heap.get?_push_of_some _ (Heap.get?_push_of_some _ z)
    have J : Inv X pins σ (upd H1 (hp.objs.size + 1) (exo (hp.objs.size + 1) C none)) ⟨(hp.push (PySem.W.kdv_tup us)).push (PySem.HandSPX.excO C hp.objs.size), g, dr, tk, os⟩ :=
      I1.laid (t' := tk) stay sz (exo_ok (by heap_get))
    have r2 : Vals [V.ref (hp.objs.size + 1), y] (Value.ref (hp.objs.size + 1) :: us) := .cons rfl r1
    have l2 : (Value.ref (hp.objs.size + 1) :: us ++ []).length = ps.length := by rw [List.append_nil, ← r2.length, hn]; rfl
    have bt := hb _ (Value.ref (hp.objs.size + 1) :: us) J.kIn l2
    rw [List.append_nil] at bt
    refine wpAny_call (PySem.HandSPX.call_own b.exc hT hC (PySem.W.looks_findIn I1.kIn iC) (fun self => PySem.W.bind_fn I1.kIn self tI) (by rw [← r1.length, sizeLine_eq]; show 1 ≤ 16777216; decide)
      (codeAny_mono (Fn.run _ X.stack _ _ ⟨Value.ref (hp.objs.size + 1) :: us, []⟩ (Value.ref (hp.objs.size + 1) :: us) [V.ref (hp.objs.size + 1), y] (fun v H2 => v = .non ∧ ∃ dx, H1 dx = none ∧ dx ≠ hp.objs.size + 1 ∧ H2 = upd (upd (upd H1 (hp.objs.size + 1) (exo (hp.objs.size + 1) C none)) dx (exd dx [(f, y)])) (hp.objs.size + 1) (exo (hp.objs.size + 1) C (some dx))) (fun _ _ _ => False) (hr.make C us []) (guards_make hG) (J.env0.make C us []) bt r2
        ⟨_, y, rfl, upd_same, fun dx n ne => ⟨rfl, dx, by rw [upd_ne ne] at n; exact n, ne, rfl⟩⟩) fun r s' z => ?_))
    match r, z with
    | .error er, z =>
      obtain ⟨_, _, _, _, _, _, _, _, _, _, _, _, no⟩ := z
      exact (show False from no).elim
    | .ok (.ret u), ⟨v, H2, os2, bare, un, hok, rv, ev, dx, n, ne, eh⟩ =>
      subst ev
      obtain ⟨h2, g2, d2, t2, os'⟩ := s'
      have ea : H2 (hp.objs.size + 1) = some (exo (hp.objs.size + 1) C (some dx)) := by rw [eh, upd_same]
      have ed : H2 dx = some (exd dx [(f, y)]) := by rw [eh, upd_ne ne, upd_same]
      obtain ⟨t0, G, I2, kG, ge, hoe, na⟩ := mk_end0 (d2 := d2) (t2 := t2) I1 sz stay un hok os2 bare ea ed n
      have same : upd (del H2 (hp.objs.size + 1)) dx (.xd [(f, y)]) = upd H1 dx (.xd [(f, y)]) := by
        funext c
        by_cases c1 : c = dx
        · subst c1; rw [upd_same, upd_same]
        · rw [upd_ne c1, upd_ne c1]
          by_cases c2 : c = hp.objs.size + 1
          · subst c2; rw [del_same]; exact fr.symm
          · rw [del_ne c2, eh, upd_ne c2, upd_ne c1, upd_ne c2]
      rw [same] at I2 na
      exact ⟨rv, hp.objs.size + 1, _, _, ⟨G, g2, d2, t2, os'⟩, _, .ref C, some dx, rfl, I2, kG, ge, hoe, ⟨rfl, rfl, fun vs hv => by cases hv; rfl⟩, rfl, rfl, na, rfl, bare, raises_own T.be T.ty, q dx n⟩
    | .ok .next, z => exact (show False from z).elim
    | .ok .brk, z => exact (show False from z).elim
    | .ok .cont, z => exact (show False from z).elim
theorem s_raise (T : ExK X.K b C) (iC : PySem.W.findIn X.K (.ref C) "__init__" = some (some (.ref fI))) (tI : PySem.W.typeIn X.K (.ref fI) = some (.type "function")) (Fn : FnG X.prog X.w X.K X.mg X.base k fI fd ps (initS C f)) (hr : Room (k + 1) X.A) (hG : X.A.guards = some [])
    (hb : Binds X.K fd ps []) (hn : ps.length = 2) (hc : X.calm = true) (tk : L2N.Takes X W) (hg : Gl X x) (hm : X.mg x = some (.ref C)) (he : PE X e (tD (gx X C0) W m)) (hdb : (x == ("__debug__" : Str)) = false := by decide) (na : starEach [e] X.env = (false, eval e X.env) :: starEach [] X.env := by rfl)
    (hpl : (backTo pos (starEach [] X.env)).any (·.1) = false := by rfl) : PS X (.Raise (some (.Call (.Name x p) [e] [] pos)) none pos2) (tS (gx X C0) W (raiseM x f m)) :=
  psImp (L2N.ps_raise hc tk (pmk_one (f := f) T iC tI Fn hr hG hb hn hg hm he hdb na hpl)) fun D σ H ⟨B, F, env, Qd, Ed, rel, hm1, _, _, _, _, h5⟩ => by
    refine ⟨B, F, env, fun y env' => Ed ⟨x, some (f, y)⟩ env', Ed, rel, hm1, fun y env' v F' H1 qe st rl rv dd n => ?_, fun x env' cls d F' H' => h5 x env' σ cls d F' H'⟩
    refine h5 _ _ _ _ _ _ _ qe (st.trans (stp_newF n (rl.notB n))) (rl.newF n) ⟨hm, dd, v, rfl, .inr rfl, upd_same, Rp.mono (stp_newF (B := B) n (rl.notB n)) y v rv⟩
end
end DL

set_option Elab.async false
set_option linter.all false
set_option maxRecDepth 100000
set_option maxHeartbeats 2000000
/-! try: .. except (A, B, C) as e: .. -/
namespace DL
open PySem PySem.Spec PyProof.Rows L2
variable [Tbs]

/-- what is held at a caught exception -/
abbrev exF (a : Addr) (oe : Obj) : HO := .frz oe (.ext fun h => h.get? a = some oe)
section
variable {X : Cx} {pins : List (Addr × Obj)} {σ : L2.St} {H : Hp} {s : Shared} {a : Addr} {oe : Obj} {vs : Array Value}
/-- the pinned exception becomes a thing that is tracked -/
theorem Inv.trackX (I : Inv (X.suite a ((a, oe) :: pins)) [] σ H s) (ok : X.Ok) (od : oe.data = .fields vs) (new : X.s_0.heap.get? a = none) (apart : ∀ p ∈ pins, p.1 ≠ a) : Inv (X.suite a pins) [] σ (upd H a (exF a oe)) s := by
  obtain ⟨here, free, nl, nf, nc⟩ := I.pin (a, oe) (List.mem_append_left _ List.mem_cons_self)
  have here : s.heap.get? a = some oe := here
  have free : H a = none := free
  have kept : ∀ {c : Addr} {o : HO}, H c = some o → upd H a (exF a oe) c = some o := fun {c o} q => by rw [upd_ne (ne_of_none q free)]; exact q
  refine ⟨ok.suite _ _, I.os, I.bare, ⟨I.base.keep, I.base.slot, fun c o q n hx => ?_, I.base.there, fun c xs q => kept (I.base.tups c xs q), fun c o u q => kept (I.base.frzs c o u q), fun c ps q => (I.base.tbls c ps q).imp fun more z => kept z⟩, I.loc, I.cell, ?_, fun x c q => ?_, fun p hp => ?_, fun c o q => ?_, I.len⟩
  · rw [upd_ne fun z => by subst z; exact nomatch new.symm.trans q]
    exact I.base.free c o q n hx
  · show upd H a (exF a oe) X.env.locals = none
    rw [upd_ne (Ne.symm nl)]
    exact I.free
  · rw [upd_ne fun z => by
      subst z
      obtain ⟨v, cv⟩ := I.cell x _ q
      obtain ⟨o, e1, e2⟩ := cv
      rw [here] at e1; cases e1
      rw [od] at e2; cases e2]
    exact I.freeC x c q
  · have hp' : p ∈ pins := by simpa using hp
    obtain ⟨e1, e2, e3⟩ := I.pin p (List.mem_append_left _ (List.mem_cons_of_mem _ hp'))
    exact ⟨e1, by rw [upd_ne (apart p hp')]; exact e2, e3⟩
  · by_cases ca : c = a
    · subst ca
      rw [upd_same] at q; cases q
      exact ⟨here, here, ⟨_, here⟩, fun h1 h2 e k => k _ e⟩
    · rw [upd_ne ca] at q
      exact (I.hok c o q).stay (fun _ _ _ z => z) (fun c' hc => kept hc) fun c' xs hc => kept hc
theorem Inv.leaveX (I : Inv (X.suite a (X.pn ++ pins)) [] σ H s) (ok : X.Ok) : Inv X pins σ H s :=
  ⟨ok, I.os, I.bare, I.base, I.loc, I.cell, I.free, I.freeC, fun p hp => I.pin p (List.mem_append_left _ hp), I.hok, I.len⟩
theorem flying_kept {B : Heap} {l : List Env} {Z : Obj → Prop} {h h' : Heap} (k : ∀ c o, h.get? c = some o → h'.get? c = some o) (x : HandSPX.FlyingZ B l a Z h) : HandSPX.FlyingZ B l a Z h' := by
  obtain ⟨st, n, ff, o1, v1, T, oT, t1, e1, z1, d1, f1, g1, g2, e2, d2, f2⟩ := x
  exact ⟨fun c o e => k c o (st c o e), n, ff.of_keeps fun c o e _ => ⟨o, k c o e, rfl⟩, o1, v1, T, oT, t1, k _ _ e1, z1, d1, f1, g1, g2, k _ _ e2, d2, f2⟩

/-- the class test of an except clause: r tells of the exception's class -/
def ExTest (X : Cx) (te : Expr) (r : Value → Option Bool) : Prop :=
  ∀ (a : Addr) (pn : List (Addr × Obj)) (σ : L2.St) (H : Hp) (s : Shared) (cls : Value) (b : Bool) (Q : Bool → Shared → Prop) (E : Value → Shared → Prop), Inv (X.suite a pn) [] σ H s → PySem.W.Looks (model X.prog X.w) s.heap (typeOf (.ref a)) cls → r cls = some b →
    (∀ h', (∀ c o, s.heap.get? c = some o → h'.get? c = some o) → Q b { s with heap := h' }) →
    wpAny (model X.prog X.w) (X.A.mark (some (.ref a))) (eval te X.env) (fun c s1 => wpAny (model X.prog X.w) (X.A.mark (some (.ref a))) (excMatches (.ref a) c) Q E s1) E s
theorem name_at {x : Str} {c : Value} {pn : List (Addr × Obj)} {p : Pos} {Q : Value → Shared → Prop} {E : Value → Shared → Prop} (hc : Names X x c) (I : Inv (X.suite a pn) [] σ H s) (q : Q c s) : wpAny (model X.prog X.w) (X.A.mark (some (.ref a))) (eval (.Name x p) X.env) Q E s := by
  obtain ⟨hg, hd, hm | ⟨hm, hv, hn⟩⟩ := hc
  · exact ld_glob (X := X.suite a pn) I hg hm q hd
  · exact ld_blt (X := X.suite a pn) I hg hm hv q hn hd
theorem xt_1 {x : Str} {c : Value} {p : Pos} (h1 : Names X x c) : ExTest X (.Name x p) (fun cls => PySem.W.exmOne X.K cls c) := fun a pn σ H s cls b Q E I L e q =>
  name_at h1 I ((PySem.W.exm_one I.kIn L e).here (q s.heap fun _ _ z => z))
theorem xt_2 {x y : Str} {c1 c2 : Value} {p p1 p2 : Pos} {k : Nat} (h1 : Names X x c1) (h2 : Names X y c2) : ExTest X (.Tuple [.Name x p1, .Name y p2] k p) (fun cls => PySem.W.exmAny X.K cls [c1, c2]) := fun a pn σ H s cls b Q E I L e q => by
  refine wpAny_Tuple (wpAny_items_cons (name_at h1 I (wpAny_items_cons (name_at h2 I (wpAny_items_nil ⟨by size_fits, ?_⟩)))))
  have up : ∀ c o, s.heap.get? c = some o → (s.heap.push { cls := .type "tuple", data := .seq [c1, c2].toArray }).get? c = some o := fun c o z => Heap.get?_push_of_some _ z
  exact (PySem.W.exm_tup2 (I.kIn.keeps up) (L.keeps up) (Heap.get?_push_size s.heap rfl) e).here (q _ up)
theorem xt_3 {x y z : Str} {c1 c2 c3 : Value} {p p1 p2 p3 : Pos} {k : Nat} (h1 : Names X x c1) (h2 : Names X y c2) (h3 : Names X z c3) : ExTest X (.Tuple [.Name x p1, .Name y p2, .Name z p3] k p) (fun cls => PySem.W.exmAny X.K cls [c1, c2, c3]) := fun a pn σ H s cls b Q E I L e q => by
  refine wpAny_Tuple (wpAny_items_cons (name_at h1 I (wpAny_items_cons (name_at h2 I (wpAny_items_cons (name_at h3 I (wpAny_items_nil ⟨by size_fits, ?_⟩)))))))
  have up : ∀ c o, s.heap.get? c = some o → (s.heap.push { cls := .type "tuple", data := .seq [c1, c2, c3].toArray }).get? c = some o := fun c o z => Heap.get?_push_of_some _ z
  exact (PySem.W.exm_tup3 (I.kIn.keeps up) (L.keeps up) (Heap.get?_push_size s.heap rfl) e).here (q _ up)
end

/-- what the clause wishes of an exception of the body -/
def wTry (r : Value → Option Bool) (i : Nat) (ts : Addr → TS) (Wout : WX) (D : Ends) : WX := fun cls d σ H =>
  ∃ b, r cls = some b ∧ (b = true → ∀ (a : Addr) (oe : Obj) (vs : Array Value), H a = none → oe.cls = cls → oe.dict = d → oe.data = .fields vs → vs[2]? = some .none →
      ts a { nx := fun σ' H' => D.nx (σ'.set i none) H', rt := D.rt, bk := fun σ' H' => D.bk (σ'.set i none) H', ct := fun σ' H' => D.ct (σ'.set i none) H' } (σ.set i (some (.ref a))) (upd H a (exF a oe))) ∧
    (b = false → Wout cls d σ H)
section
variable {X : Cx} {n : Str} {i : Nat} {te : Expr} {r : Value → Option Bool} {body suite : List Stmt} {b₀ : Stmt} {pos pos' : Pos} {tb : WX → TS} {ts : Addr → TS} {Wout : WX}
theorem ps_tryX (hs : X.stack = X.env :: X.outer) (hf : X.env.frame = some X.env.locals) (hex : X.ex = []) (hN : X.N.Nodup) (hi : X.N[i]? = some n) (hln : X.env.kindOf n = some .local) (ht : ExTest X te r) (tk : L2N.Takes X Wout)
    (hb : ∀ (W : WX) (pn : List (Addr × Obj)) (xe : Value → Shared → Prop), L2N.Takes (X.tr pn xe) W → PassesOwn (model X.prog X.w) X.A X.env xe → PSs (X.tr pn xe) body (tb W))
    (hsu : ∀ (a : Addr) (pn : List (Addr × Obj)), PSs (X.suite a pn) (b₀ :: suite) (ts a)) :
    PS X (.Try body [.ExceptHandler (some te) (some n) (b₀ :: suite) pos'] [] [] pos) (fun D σ H => tb (wTry r i ts Wout D) D σ H) := ⟨fun pins s σ H D I h => by
  have ok := I.ok
  have frs0 : X.A.frames = some (X.env :: X.outer) := by rw [ok.frames, hs]
  refine wpAny_Try_except (wpAny_mono ((hb (wTry r i ts Wout D) (X.pn ++ pins) (fun e s1 => wpAny (model X.prog X.w) X.A (noteFrame e X.env) (fun _ s2 => wpAny (model X.prog X.w) X.A (setFlight e none) (fun _ s3 =>
    wpAny (model X.prog X.w) X.A (handleBy e X.env [.ExceptHandler (some te) (some n) (b₀ :: suite) pos']) (SP X pins D) X.xe s3) X.xe s2) X.xe s1) (fun u s' air => ?_) PassesOwn.looking).run [] s σ H D (I.toTry _) h) (fun fl s1 ends => ?_) fun _ _ z => z)
  · obtain ⟨a, B, sI, pins0, σ1, H1, cls, d, rfl, J0, nb, up, sky, na, os, ag, b, hb1, yes, no⟩ := air
    have J1 : Inv X pins σ1 H1 sI := J0.ofTry ok
    have sky1 : Sky B (X.env :: X.outer) a (L2N.Zn cls d) X.env.locals s'.heap := by rw [← hs]; exact sky
    show wpAny (model X.prog X.w) X.A (noteFrame (.ref a) X.env) _ _ _
    refine L2N.Sky.land L2N.Zn.steady frs0 hf sky1 fun g1 fly1 up1 => ?_
    have J2 : Inv X pins σ1 H1 { s' with heap := g1 } := J1.landed nb fly1.1 (up.trans up1) os ag
    obtain ⟨o1, v1, at1, z1, d1⟩ := fly1.there
    have out : ∀ {h : Heap} {o : Obj} {v : Array Value}, h.FunFrames B (X.env :: X.outer) → h.get? a = some o → o.data = .fields v → a ∉ frs (X.env :: X.outer) := fun {h o v} ff e dd hm => by
      obtain ⟨_, o', e', bad⟩ := ff.mem hm
      rw [e] at e'; cases e'
      exact bad _ dd
    have nfr := out fly1.2.2.1 at1 d1
    have nL : a ≠ X.env.locals := fun z => nfr (List.mem_filterMap.mpr ⟨X.env, List.mem_cons_self, by rw [hf, z]⟩)
    have nF : a ∉ X.fs := fun hm => by
      obtain ⟨e, he, q⟩ := List.mem_filterMap.mp hm
      exact nfr (List.mem_filterMap.mpr ⟨e, List.mem_cons_of_mem _ he, q⟩)
    have notI : sI.heap.get? a = none := by
      cases q : sI.heap.get? a with
      | none => rfl
      | some o => exact nomatch fly1.2.1.symm.trans (nb a o q (by rw [hs]; exact nfr))
    have not0 : X.s_0.heap.get? a = none := by
      cases q : X.s_0.heap.get? a with
      | none => rfl
      | some o =>
        obtain ⟨o', e'⟩ := J1.base.there a o q (by rw [hex]; simp)
        exact nomatch notI.symm.trans e'
    have apart : ∀ p ∈ X.pn ++ pins, p.1 ≠ a := fun p hp z => by
      have e1 := (J1.pin p hp).1
      rw [z, notI] at e1; cases e1
    have S2 := J2.suite at1 d1 na nL nF
    refine wpAny_handleBy_cons (codeAny_handlers_test ?_) (by intro q; cases q)
    have L : PySem.W.Looks (model X.prog X.w) g1 (typeOf (.ref a)) cls := fun A Q E s0 k q => wpAny_typeOf_ref (k _ _ at1) (by rw [z1.1]; exact q)
    refine ht a ((a, o1) :: (X.pn ++ pins)) _ _ _ cls b _ _ S2 L hb1 fun g2 k2 => ?_
    have fly2 := flying_kept k2 fly1
    have up2 := up1.trans (Heap.UpToSlots.of_keeps k2)
    cases b with
    | true =>
      refine codeAny_handlers_suite_as (HandSPX.lands_againZ fly2 fun g3 fly3 up3 => ?_)
      have J3 : Inv X pins σ1 H1 { s' with heap := g3 } := J1.landed nb fly3.1 ((up.trans up2).trans up3) os ag
      obtain ⟨o3, v3, at3, z3, d3⟩ := fly3.there
      have S3 := Inv.trackX (J3.suite at3 d3 na nL nF) ok d3 not0 apart
      refine store_ok (X := X.suite a (X.pn ++ pins)) (v := .ref a) S3 hN hi (.inl hln) rfl (fun s5 S5 => ?_) (.inr hln)
      refine wpAny_mono ((hsu a (X.pn ++ pins)).run [] s5 _ _ _ S5 (yes rfl a o3 v3 na z3.1 z3.2.1 d3 (z3.2.2 _ d3))) (fun fl s6 ends => ?_) fun _ _ z => False.elim z
      have done : ∀ {σ6 : L2.St} {H6 : Hp} {Q : Shared → Prop}, Inv (X.suite a (X.pn ++ pins)) [] σ6 H6 s6 → (∀ s7, Inv X pins (σ6.set i none) H6 s7 → Q s7) → wpAny (model X.prog X.w) X.A (do bindName X.env n .none; unbindBehindTheSuite X.env n pos') (fun _ s7 => Q s7) X.xe s6 :=
        fun {σ6 H6 Q} S6 hq => gone_ok (Inv.leaveX S6 ok) hN hi hln hq
      match fl, ends with
      | .next, ⟨σ6, H6, S6, q6⟩ => exact done S6 fun s7 J7 => ⟨_, _, J7, q6⟩
      | .brk, ⟨σ6, H6, S6, q6⟩ => exact done S6 fun s7 J7 => ⟨_, _, J7, q6⟩
      | .cont, ⟨σ6, H6, S6, q6⟩ => exact done S6 fun s7 J7 => ⟨_, _, J7, q6⟩
      | .ret u, ⟨v6, σ6, H6, S6, r6, q6⟩ => exact done S6 fun s7 J7 => ⟨_, _, _, J7, r6, q6⟩
    | false =>
      show wpAny _ X.A (handleBy (.ref a) X.env []) _ _ _
      obtain ⟨k1, k2, k3, oe, vs, T, oT, t1, e1, z1, d1, f1, _⟩ := id fly2
      unfold handleBy PySem.passOn
      refine wpAny_bind (wpAny_field e1 d1 f1 ?_)
      rw [if_neg (show ¬ ((Value.ref T == Value.none) = true) from by simp)]
      have fin : wpAny (model X.prog X.w) X.A (setFlight (.ref a) X.env.frame) (fun _ s4 => wpAny (model X.prog X.w) X.A (throw (.ref a) : Sem Flow) (SP X pins D) X.xe s4) X.xe { s' with heap := g2 } := by
        rw [hf]
        refine HandSPX.setFlight_upZ fly2 fun g4 held up4 => wpAny_throw (tk _ _ ⟨a, B, sI, pins, σ1, H1, cls, d, rfl, J1, nb, (up.trans up2).trans up4, .inr (.inr (by rw [hs]; exact held)), na, os, ag, no rfl⟩)
      first
        | exact wpAny_bind (wpAny_pure (wpAny_bind fin))
        | exact wpAny_bind fin
  · match fl, ends with
    | .next, ⟨σ1, H1, J1, q⟩ => exact wpAny_execs_nil ⟨σ1, H1, J1.ofTry ok, q⟩
    | .brk, ⟨σ1, H1, J1, q⟩ => exact ⟨σ1, H1, J1.ofTry ok, q⟩
    | .cont, ⟨σ1, H1, J1, q⟩ => exact ⟨σ1, H1, J1.ofTry ok, q⟩
    | .ret u, ⟨v, σ1, H1, J1, rv, q⟩ => exact ⟨v, σ1, H1, J1.ofTry ok, rv, q⟩⟩
end
/-! ### over data -/
def exnD (x : Exn) : D := match x.fld with
  | none => .exn x.cls "" []
  | some (f, y) => .exn x.cls f [y]
/-- try: body, except (..) as n: suite; ex tells of a class's name whether the clause takes it -/
def tryX (i : Nat) (ex : Str → Option Bool) (body suite : M Fl) : M Fl := fun env Q E => body env Q fun x env1 => match ex x.cls with
  | some true => setI i (exnD x) env1 (fun _ env2 => suite env2 (fun f env3 => Q f (env3.set i .no)) fun _ _ => False) fun _ _ => False
  | some false => E x env1
  | none => False
/-- the exception at a is held -/
def HotA (F : Addr → Prop) (H : Hp) (a : Addr) : Prop := F a ∧ ∃ cls d, ExAt H a cls d
def tSH (G : Gx) (W : WX) (a : Addr) (m : M Fl) : TS := fun D σ H => ∃ B F env, Ps G W m D σ H B F env ∧ HotA F H a
abbrev WN : WX := fun _ _ _ _ => False
section
variable {G : Gx} {B F : Addr → Prop} {σ : L2.St} {H : Hp} {env : List Slot}
theorem Rel.unset (rel : Rel G B F σ env H) (i : Nat) : Rel G B F (σ.set i none) (env.set i .no) H := by
  have back : ∀ j s, (env.set i .no)[j]? = some s → s.own = true → env[j]? = some s ∧ j ≠ i := fun j s e o => by
    by_cases hj : j = i
    · subst hj
      have := (List.getElem?_eq_some_iff.mp e).1
      rw [List.getElem?_set_self (by simpa using this)] at e
      cases e; cases o
    · rw [List.getElem?_set_ne (Ne.symm hj)] at e
      exact ⟨e, hj⟩
  refine ⟨by rw [List.length_set, List.length_set]; exact rel.len, fun j s e => ?_, fun j l a ⟨⟨s, e, o⟩, z⟩ ⟨⟨s', e', o'⟩, z'⟩ => ?_, rel.hB, rel.hF, rel.tb⟩
  · by_cases hj : j = i
    · subst hj
      have := (List.getElem?_eq_some_iff.mp e).1
      rw [List.getElem?_set_self (by simpa using this)] at e
      cases e; trivial
    · rw [List.getElem?_set_ne (Ne.symm hj)] at e ⊢
      exact rel.sl j s e
  · obtain ⟨e1, n1⟩ := back j s e o
    obtain ⟨e2, n2⟩ := back l s' e' o'
    rw [List.getElem?_set_ne (Ne.symm n1)] at z
    rw [List.getElem?_set_ne (Ne.symm n2)] at z'
    exact rel.ap j l a ⟨⟨s, e1, o⟩, z⟩ ⟨⟨s', e2, o'⟩, z'⟩
theorem ResR.unset {i : Nat} {r : Res} {v : V} (h : ResR G B F env σ H r v) : ResR G B F (env.set i .no) (σ.set i none) H r v := by
  cases r with
  | d d => exact h
  | o o =>
    obtain ⟨a, e, h1, h2, h3, h4⟩ := h
    refine ⟨a, e, h1, h2, h3, fun j b p q => ?_⟩
    by_cases hj : j = i
    · subst hj
      have := (List.getElem?_eq_some_iff.mp q).1
      rw [List.getElem?_set_self (by simpa using this)] at q
      cases q
    · rw [List.getElem?_set_ne (Ne.symm hj)] at q
      exact h4 j b p q
/-- a caught exception, held, as a datum -/
theorem exn_rp {x : Exn} {cls : Value} {d : Option Addr} {a : Addr} {oe : Obj} {vs : Array Value} (h : ExnR G F H x cls d) (na : H a = none) (nB : ¬ B a) (e1 : oe.cls = cls) (e2 : oe.dict = d) (e3 : oe.data = .fields vs) (e4 : vs[2]? = some .none) :
    Rp G (fun c => F c ∨ c = a) (upd H a (exF a oe)) (exnD x) (.ref a) := by
  have st : Stp B F H (fun c => F c ∨ c = a) (upd H a (exF a oe)) := stp_newF na nB
  have at_ : ExAt (upd H a (exF a oe)) a cls d := ⟨oe, vs, upd_same, e1, e2, e3, e4⟩
  obtain ⟨hm, h⟩ := h
  unfold exnD
  cases q : x.fld with
  | none =>
    rw [q] at h
    exact ⟨a, cls, d, [], rfl, .inr rfl, at_, hm, rfl, .inl ⟨h, rfl⟩⟩
  | some p =>
    obtain ⟨f, y⟩ := p
    rw [q] at h
    obtain ⟨dd, v, ed, hF, hd, rv⟩ := h
    exact ⟨a, cls, d, [v], rfl, .inr rfl, at_, hm, ⟨v, [], rfl, Rp.mono st y v rv, rfl⟩, .inr ⟨dd, v, ed, rfl, .inl hF, st.hk dd _ (.inr hF) hd⟩⟩
end
section
variable {X : Cx} {C : Addr} {W : WX} {n : Str} {i : Nat} {te : Expr} {r : Value → Option Bool} {ex : Str → Option Bool} {body suite : List Stmt} {b₀ : Stmt} {pos pos' : Pos} {mb ms : M Fl}
theorem s_tryX (hs : X.stack = X.env :: X.outer) (hf : X.env.frame = some X.env.locals) (hex : X.ex = []) (hN : X.N.Nodup) (hi : X.N[i]? = some n) (hln : X.env.kindOf n = some .local) (ht : ExTest X te r) (tk : L2N.Takes X W)
    (hr : ∀ c cls b, X.mg c = some cls → ex c = some b → r cls = some b)
    (hb : ∀ (W : WX) (pn : List (Addr × Obj)) (xe : Value → Shared → Prop), L2N.Takes (X.tr pn xe) W → PassesOwn (model X.prog X.w) X.A X.env xe → PSs (X.tr pn xe) body (tS (gx X C) W mb))
    (hsu : ∀ (a : Addr) (pn : List (Addr × Obj)), PSs (X.suite a pn) (b₀ :: suite) (tSH (gx X C) WN a ms)) :
    PS X (.Try body [.ExceptHandler (some te) (some n) (b₀ :: suite) pos'] [] [] pos) (tS (gx X C) W (tryX i ex mb ms)) :=
  psImp (ps_tryX (tb := fun W => tS (gx X C) W mb) (ts := fun a => tSH (gx X C) WN a ms) hs hf hex hN hi hln ht tk hb hsu) fun D σ H ⟨B, F, env, Qd, Ed, rel, hm, h1, h2, h3, h4, h5⟩ => by
    refine ⟨B, F, env, Qd, _, rel, hm, h1, h2, h3, h4, fun x env1 σ1 cls d F1 H1 q st rl rx => ?_⟩
    cases e : ex x.cls with
    | none => simp only [e] at q
    | some b =>
      refine ⟨b, hr _ _ _ rx.1 e, fun eb a oe vs na e1 e2 e3 e4 => ?_, fun eb => ?_⟩
      · subst eb
        simp only [e] at q
        have q := setI_spec q
        have nB : ¬ B a := rl.notB na
        have st1 : Stp B F H (fun c => F1 c ∨ c = a) (upd H1 a (exF a oe)) := st.trans (stp_newF na nB)
        refine ⟨B, fun c => F1 c ∨ c = a, _, ⟨_, _, (rl.newF na).setI (exn_rp (B := B) rx na nB e1 e2 e3 e4), q, fun env' σ' F' H' k s' r' => h1 _ _ _ _ k (st1.trans s') (r'.unset i), fun env' σ' F' H' k s' r' => h2 _ _ _ _ k (st1.trans s') (r'.unset i),
          fun env' σ' F' H' k s' r' => h3 _ _ _ _ k (st1.trans s') (r'.unset i), fun rr env' σ' F' H' v k s' r' rv => h4 rr _ _ _ _ v k (st1.trans s') (r'.unset i) rv.unset, fun _ _ _ _ _ _ _ z => z.elim⟩, .inr rfl, cls, d, oe, vs, upd_same, e1, e2, e3, e4⟩
      · subst eb
        simp only [e] at q
        exact h5 x env1 σ1 cls d F1 H1 q st rl rx
end
end DL

set_option Elab.async false
set_option linter.all false
set_option maxRecDepth 100000
set_option maxHeartbeats 2000000
/-! Defs that are called while an exception is handled. -/
namespace DL
open PySem PySem.Spec PyProof.Rows L2
variable [Tbs]

theorem takes0N {X : Cx} : L2N.Takes X WN := fun _ _ x => by
  obtain ⟨_, _, _, _, _, _, _, _, _, _, _, _, _, _, _, _, no⟩ := x
  exact no.elim
/-- room where something is handled -/
structure RoomX (k : Nat) (A : Around) : Prop where
  dp : A.depth + 3 * k + 5 < recursionLimit
  un : A.units + 16 * k + 200 < cLine
theorem RoomX.deeper {k : Nat} {A : Around} (r : RoomX (k + 1) A) (env : Env) : RoomX k (A.deeper env) :=
  ⟨by have := r.dp; show A.depth + 1 + 3 * k + 5 < _; omega, by have := r.un; show A.units + 3 + 16 * k + 200 < _; omega⟩
theorem RoomX.mono {j k : Nat} {A : Around} (r : RoomX k A) (h : j ≤ k) : RoomX j A := ⟨by have := r.dp; omega, by have := r.un; omega⟩
theorem RoomX.units {k : Nat} {A : Around} (r : RoomX k A) : A.units + 200 < cLine := by have := r.un; omega
theorem Room.x {k : Nat} {A : Around} (r : Room k A) : RoomX k A := ⟨r.dp, r.un⟩
/-- the handled exception is known -/
def HdA (A : Around) (H : Hp) : Prop := ∃ a cls d, A.handled = some (.ref a) ∧ ExAt H a cls d
/-- .. all through a def's run -/
def HotX (X : Cx) : Prop := HdA X.A X.H_0
theorem HotX.at_ {X : Cx} {pins : List (Addr × Obj)} {σ : L2.St} {H : Hp} {s : Shared} (h : HotX X) (I : Inv X pins σ H s) : ∃ x1, HotX.HotAt X.A x1 s.heap := by
  obtain ⟨a, cls, d, hh, oe, vs, e, _, _, e3, e4⟩ := h
  exact ⟨a, hh, oe, vs, (I.hok a _ (I.base.frzs a _ _ e)).1, e3, e4⟩
/-- a def's promise where an exception is handled -/
structure FnGh (P : Program) (w : World) (K : PySem.W.Frag) (mg : Str → Option Value) (base : Heap) (k : Nat) (f : Addr) (fd : FuncData) (ps : List Str) (sp : Sp) : Prop where
  len : ∀ vs H Q E, sp vs H Q E → vs.length = ps.length
  run : ∀ (A : Around) (outer : List Env) (s : Shared) (H : Hp) (args : Args) (us : List Value) (vs : List V) (Q : VK) (E : XK), RoomX k A → A.guards = some [] → HdA A H → Env0 P w K mg base A outer s H → BindsTo s fd args (ps.zip us) → Vals vs us → sp vs H Q E →
    codeAny (model P w) A (.call (.ref f) args) (CR (L2N.CX P w) outer P w H s Q E) s
/-- the context of such a def's body -/
abbrev cxE (P : Program) (w : World) (K : PySem.W.Frag) (mg : Str → Option Value) (base : Heap) (N : List Str) (qual : Str) (scope : Scope) (f : Addr) (cd : Value) (A : Around) (outer : List Env) (s : Shared) (H : Hp) (E : XK) : Cx :=
  { cxOf (L2N.CX P w) P w K mg base N qual scope f cd A outer s H E with calm := false }
/-- a context where nothing is handled, taken where something is -/
theorem Inv.heat {X : Cx} {pins : List (Addr × Obj)} {σ : L2.St} {H : Hp} {s : Shared} {A : Around} {xe : Value → Shared → Prop} (I : Inv X pins σ H s) (hf : A.frames = X.A.frames) : Inv { X with A := A, calm := false, xe := xe } pins σ H s :=
  have ok := I.ok
  ⟨⟨ok.mod, ok.kind, ok.glob, ok.blt, ok.above, ok.inj, ok.has, ok.cab, fun z => absurd z Bool.false_ne_true, hf.trans ok.frames, ok.stk, ok.exf, ok.bs, ok.bsz, ok.noex, ok.exfs, ok.funs, ok.frf⟩, I.os, I.bare, I.base, I.loc, I.cell, I.free, I.freeC, I.pin, I.hok, I.len⟩
theorem fnGh_of {P : Program} {w : World} {K : PySem.W.Frag} {mg : Str → Option Value} {base : Heap} {k : Nat} {f : Addr} {x qual : Str} {st : Stmt} {fd : FuncData} {N ps : List Str} {sp : Sp} (Fn : Fun K x qual st f fd) (S : FnScope N ps (defScope st)) (len : ∀ vs H Q E, sp vs H Q E → vs.length = ps.length)
    (body : ∀ (cdv : Value) (A : Around) (outer : List Env) (s : Shared) (H : Hp) (vs : List V) (Q : VK) (E : XK), RoomX k (A.deeper (envOfC qual (defScope st) s.heap.objs.size f cdv)) → A.guards = some [] → HdA A H → sp vs H Q E →
      ∃ t, PSs (cxE P w K mg base N qual (defScope st) f cdv A outer s H E) (defBody st) t ∧ t { nx := fun _ H' => Q .non H', rt := Q } (L2.start N vs) H) : FnGh P w K mg base (k + 1) f fd ps sp := by
  obtain ⟨oc, od, kV, doc, pm, an, cdv, ct, osl, rfl, lk, hcd⟩ := Fn.ex
  refine ⟨len, fun A outer s H args us vs Q E hr hG hd e0 hb r hsp => ?_⟩
  have KX : K.In s.heap := e0.mod.kin.keeps fun b o e => (e0.bs b o e).1
  have few : s.heap.NoLimit := e0.mod.nolimit.keeps fun b o e => (e0.bs b o e).1
  have kinds : ∀ y ∈ ps.zip us, (defScope st).names.lookup y.1 = some .local ∨ ((defScope st).names.lookup y.1 = some .cell ∧ ((cellsFrom (s.heap.objs.size + 1) (defScope st).names []).lookup y.1).isSome = true) := fun ⟨n, v⟩ hy =>
    (S.par n (List.of_mem_zip hy).1).imp id fun q => ⟨q, PySem.W.cellsFrom_some _ _ _ (.inl q)⟩
  refine codeAny_call_function (by have := hr.dp; omega) (KX _ _ lk) rfl S.co S.gen rfl (PySem.W.codeRec_of KX hcd) (hb _ _ _ _ (wpAny_newFunctionEnv_cells S.kind kinds fun env he s1 z => ?_))
  subst he
  obtain ⟨t, ht, hq⟩ := body cdv A outer s H vs Q E (hr.deeper _) hG hd hsp
  have e1 : Env0 P w K mg base { A with handled := none } outer s H := ⟨e0.frames, e0.mod, e0.bs, e0.bsz, e0.funs, e0.frf, e0.hok, e0.bare⟩
  have I0 := inv_start (CX := L2N.CX P w) (E := E) S (A := { A with handled := none }) rfl e1 (len _ _ _ _ hsp) r z
  have I : Inv (cxE P w K mg base N qual (defScope st) f cdv A outer s H E) [] (L2.start N vs) H s1 := by
    have z := Inv.heat (A := A.deeper (envOfC qual (defScope st) s.heap.objs.size f cdv)) (xe := (cxE P w K mg base N qual (defScope st) f cdv A outer s H E).xe) I0 rfl
    exact z
  refine ⟨few.keeps z.toInCall.keep, codeAny_func (wpAny_mono (ht.run [] s1 (L2.start N vs) H _ I hq) (fun fl s2 hs => ?_) fun e s2 hs => hs)⟩
  match fl, hs with
  | .ret u, ⟨v, σ2, H2, J, rv, q⟩ => exact ⟨v, H2, J.os, J.bare, J.base, J.hok, rv, q⟩
  | .next, ⟨σ2, H2, J, q⟩ => exact ⟨.non, H2, J.os, J.bare, J.base, J.hok, rfl, q⟩
  | .brk, ⟨_, _, _, q⟩ => exact q.elim
  | .cont, ⟨_, _, _, q⟩ => exact q.elim
/-- THE RULE for a def that is called so -/
theorem fnDh {P : Program} {w : World} {K : PySem.W.Frag} {mg : Str → Option Value} {base : Heap} {k n : Nat} {f C : Addr} {x qual : Str} {st : Stmt} {fd : FuncData} {N ps : List Str} {m : M Fl} (Fn : Fun K x qual st f fd) (S : FnScope N ps (defScope st)) (hn : n = ps.length) (hN : n ≤ N.length)
    (body : ∀ (cdv : Value) (A : Around) (outer : List Env) (s : Shared) (H : Hp) (E : XK), RoomX k (A.deeper (envOfC qual (defScope st) s.heap.objs.size f cdv)) → A.guards = some [] → HdA A H →
      PSs (cxE P w K mg base N qual (defScope st) f cdv A outer s H E) (defBody st) (tS ⟨C, mg, K, w, P⟩ (WE1 E) m)) : FnGh P w K mg base (k + 1) f fd ps (spD ⟨C, mg, K, w, P⟩ n (defM N.length m)) :=
  fnGh_of Fn S (fun vs H Q E h => h.1.trans hn) fun cdv A outer s H vs Q E hr hG hd h => ⟨_, body cdv A outer s H E hr hG hd, spD_tS hN h⟩

/-! ### its call, first of all in an except suite -/
theorem HotA.mono {B F F' : Addr → Prop} {H H' : Hp} {a : Addr} (s : Stp B F H F' H') (h : HotA F H a) : HotA F' H' a := ⟨s.fm a h.1, let ⟨c, d, e⟩ := h.2; ⟨c, d, e.mono s h.1⟩⟩
/-- a reading with the exception at a held -/
def LiftH {α β : Type} (G : Gx) (W : WX) (R : (Addr → Prop) → (Addr → Prop) → List Slot → L2.St → Hp → α → β → Prop) (a : Addr) (m : M α) : L2.St → Hp → (β → Hp → Prop) → Prop := fun σ H Q => ∃ B F env, Pt G W R σ H Q m B F env ∧ HotA F H a
section
variable {X : Cx} {C : Addr} {k n : Nat} {f a : Addr} {fd : FuncData} {ps : List Str} {df : DF} {x : Str} {p pos : Pos} {e : Expr} {es : List Expr} {ms : M (List D)} {W : WX}
def callD1 (n : Nat) (df : DF) (ds : List D) : M Res := ask (ds.length = n) (callD df ds)
/-- f(e, ..) -/
theorem c_hot (Fn : FnGh X.prog X.w X.K X.mg X.base k f fd ps (spD (gx X C) n df)) (hr : RoomX k X.A) (hG : X.A.guards = some []) (hh : X.A.handled = some (.ref a)) (tk : L2N.Takes X W) (hg : Gl X x) (hm : X.mg x = some (.ref f)) (hk : PySem.W.keepIn X.K (.ref f) = true) (hb : Binds X.K fd ps [])
    (hn : n = ps.length) (ha : PA X (e :: es) (tDs (gx X C) W ms)) (hdb : (x == ("__debug__" : Str)) = false := by decide) (he : starEach (e :: es) X.env = (false, eval e X.env) :: starEach es X.env := by rfl) (hpl : (backTo pos (starEach es X.env)).any (·.1) = false := by rfl) :
    PE X (.Call (.Name x p) (e :: es) [] pos) (LiftH (gx X C) W (RRs (gx X C)) a (bnd ms (callD1 n df))) := ⟨fun pins s σ H Q I ⟨B, F, env, ⟨Qd, Ed, rel, hm1, hq, hex⟩, hot⟩ => by
  refine wpAny_Call_Name_kw (ld_glob I hg hm (PySem.W.callWith_K (h₀ := X.base) I.ok.mod.kin hk (thn (ha.run pos pins s σ H (fun vs H1 => vs.length = n ∧ spD (gx X C) n df vs H1 Q (WE W σ) ∧ HdA X.A H1) I ?_) fun us s1 ⟨vs, H1, I1, r, l, q, hd⟩ => ⟨I1.kIn, wpAny_call ?_⟩) he hpl) hdb)
  · refine ⟨B, F, env, fun ds env' => callD1 n df ds env' Qd Ed, Ed, rel, hm1, fun ds env' vs F1 H1 q st rl rr => ?_, hex⟩
    have pt : Pt (gx X C) W (RRs (gx X C)) σ H1 Q (callD1 n df ds) B F1 env' := ⟨Qd, Ed, rl, q, fun c env2 b F2 H2 q2 st2 => hq c env2 b F2 H2 q2 (st.trans st2), fun y env2 cls d F2 H2 q2 st2 => hex y env2 cls d F2 H2 q2 (st.trans st2)⟩
    obtain ⟨l, pt⟩ := pt.asked
    have lv := rr.length.symm.trans l
    exact ⟨lv, pt.callD rr lv, a, let ⟨c, d, z⟩ := (hot.mono st).2; ⟨c, d, hh, z⟩⟩
  · have hb' := hb s1 us I1.kIn (by rw [List.append_nil, ← r.length, l, hn])
    rw [List.append_nil] at hb'
    refine codeAny_mono (Fn.run X.A X.stack s1 H1 _ us vs Q (WE W σ) hr hG hd I1.env0 hb' r q) fun rr s' hq => ?_
    match rr, hq with
    | .error ex, hq => exact L2N.passAt tk σ pins H1 s1 ex s' I1 hq
    | .ok (.ret u), hq => exact I1.after hq
    | .ok .next, hq => exact hq
    | .ok .brk, hq => exact hq
    | .ok .cont, hq => exact hq⟩
end
end DL

set_option Elab.async false
set_option linter.all false
set_option maxRecDepth 100000
set_option maxHeartbeats 2000000
/-! A caught exception asked: isinstance, its field. -/
namespace DL
open PySem PySem.Spec PyProof.Rows L2
variable [Tbs]

/-! ### the program's exception classes by their names -/
def exBase (c : Str) : Str :=
  if c = "SeatError" then "ValueError" else if c = "StateError" then "LookupError" else if c = "GreatError" then "ArithmeticError"
  else if c = "TooMany" then "GreatError"
  else if c ∈ (["In", "Out", "NoName", "Same", "Full", "NoWay", "NoBack"] : List Str) then "StateError"
  else if c ∈ (["NoHall", "NoStanding", "NoSeat", "NoText", "NoBytes", "NoGuest", "NoRow", "NoLeads", "NoSet", "NoShifts", "NoBeat", "NoNames", "NoTask", "NoLog", "NoOrder"] : List Str) then "SeatError" else ""
/-- c is t or stands under it -/
def exIs (c t : Str) : Bool := decide (c = t) || decide (exBase c = t) || decide (exBase (exBase c) = t)
def exA (K : PySem.W.Frag) (c : Str) : Addr := match PySem.W.nsIn K mainGlobals c with
  | some (some (.ref a)) => a
  | _ => 0
def exBlt (t : Str) : Option String := if t = "ValueError" then some "ValueError" else if t = "LookupError" then some "LookupError" else if t = "ArithmeticError" then some "ArithmeticError" else none
def exV (K : PySem.W.Frag) (t : Str) : Value := match exBlt t with
  | some s => .type s
  | none => .ref (exA K t)
def exW (K : PySem.W.Frag) (t : Str) : V := match exBlt t with
  | some s => .ty s
  | none => .ref (exA K t)
theorem exW_cls (K : PySem.W.Frag) (t : Str) : ClsV (exW K t) (exV K t) := by
  unfold exW exV
  cases exBlt t with
  | none => exact .own _
  | some s => exact .ty s
theorem exW_vals {K : PySem.W.Frag} : ∀ {l : List Str} {its : List Value}, Vals (l.map (exW K)) its → its = l.map (exV K)
  | [], _, .nil => rfl
  | t :: l, _, .cons r1 r2 => by rw [List.map_cons, (exW_cls K t).eq r1, exW_vals r2]
/-- what is asked of the written part: the classes cs, asked by ts and hs, their fields fs -/
def exOne (K : PySem.W.Frag) (ts hs fs : List Str) (c : Str) : Bool :=
  decide (PySem.W.nsIn K mainGlobals c = some (some (.ref (exA K c)))) && (PySem.W.clsIn K (exA K c)).isSome && PySem.W.hasDictIn K (exA K c) &&
  decide (PySem.W.findIn K (.ref (exA K c)) "__getattribute__" = some (some (.builtin "BaseException.__getattribute__"))) && decide (PySem.W.findIn K (.ref (exA K c)) "__getattr__" = some none) &&
  decide (PySem.W.subIn K (.ref (exA K c)) (.type "BaseException") = some true) && decide (PySem.W.findIn K (.ref (exA K c)) "__class__" = some (some (.builtin "object.__class__"))) && decide (PySem.W.mroIn K (exA K c) (.type "object") = some true) &&
  ts.all (fun t => decide (PySem.W.kitOne K (.ref (exA K c)) (exV K t) = some (exIs c t))) && hs.all (fun t => decide (PySem.W.exmOne K (.ref (exA K c)) (exV K t) = some (exIs c t))) && fs.all (fun f => decide (PySem.W.findIn K (.ref (exA K c)) f = some none))
def exOk (K : PySem.W.Frag) (cs ts hs fs : List Str) : Bool :=
  decide (PySem.W.specialIn K (.builtin "object.__class__") "__get__" = some (some (.builtin "getset_descriptor.__get__"))) && decide (PySem.W.takesIn K (.builtin "object.__class__") = some true) && cs.all (exOne K ts hs fs)
structure ExAt1 (K : PySem.W.Frag) (mg : Str → Option Value) (ts hs fs : List Str) (c : Str) : Prop where
  at_ : mg c = some (.ref (exA K c))
  cl : (PySem.W.clsIn K (exA K c)).isSome = true
  dc : PySem.W.hasDictIn K (exA K c) = true
  ga : PySem.W.findIn K (.ref (exA K c)) "__getattribute__" = some (some (.builtin "BaseException.__getattribute__"))
  gg : PySem.W.findIn K (.ref (exA K c)) "__getattr__" = some none
  be : PySem.W.subIn K (.ref (exA K c)) (.type "BaseException") = some true
  cc : PySem.W.findIn K (.ref (exA K c)) "__class__" = some (some (.builtin "object.__class__"))
  mo : PySem.W.mroIn K (exA K c) (.type "object") = some true
  is_ : ∀ t ∈ ts, PySem.W.kitOne K (.ref (exA K c)) (exV K t) = some (exIs c t)
  ex : ∀ t ∈ hs, PySem.W.exmOne K (.ref (exA K c)) (exV K t) = some (exIs c t)
  fd : ∀ f ∈ fs, PySem.W.findIn K (.ref (exA K c)) f = some none
structure ExAll (K : PySem.W.Frag) (mg : Str → Option Value) (cs ts hs fs : List Str) : Prop where
  sp : PySem.W.specialIn K (.builtin "object.__class__") "__get__" = some (some (.builtin "getset_descriptor.__get__"))
  tk : PySem.W.takesIn K (.builtin "object.__class__") = some true
  one : ∀ c ∈ cs, ExAt1 K mg ts hs fs c
theorem exAll_of {K : PySem.W.Frag} {h : Heap} {mg : Str → Option Value} {cs ts hs fs : List Str} (kin : K.In h) (G : h.Ns mainGlobals mg) (e : exOk K cs ts hs fs = true) : ExAll K mg cs ts hs fs := by
  simp only [exOk, exOne, Bool.and_eq_true, decide_eq_true_eq, List.all_eq_true] at e
  obtain ⟨⟨e1, e2⟩, e3⟩ := e
  refine ⟨e1, e2, fun c hc => ?_⟩
  obtain ⟨⟨⟨⟨⟨⟨⟨⟨⟨⟨a1, a2⟩, a3⟩, a4⟩, a5⟩, a6⟩, a7⟩, a8⟩, a9⟩, a10⟩, a11⟩ := e3 c hc
  exact ⟨PySem.W.mg_of kin G a1, a2, a3, a4, a5, a6, a7, a8, a9, a10, a11⟩
theorem exmAny_of {K : PySem.W.Frag} {mg : Str → Option Value} {cs ts hs fs : List Str} (T : ExAll K mg cs ts hs fs) {c : Str} (hc : c ∈ cs) : ∀ {l : List Str}, (∀ t ∈ l, t ∈ hs) → PySem.W.exmAny K (.ref (exA K c)) (l.map (exV K)) = some (l.any (exIs c))
  | [], _ => rfl
  | t :: l, h => by
    have e1 := (T.one c hc).ex t (h t List.mem_cons_self)
    have e2 := exmAny_of T hc (l := l) fun t ht => h t (List.mem_cons_of_mem _ ht)
    show (match PySem.W.exmOne K (.ref (exA K c)) (exV K t), PySem.W.exmAny K (.ref (exA K c)) (l.map (exV K)) with
      | some b, some d => some (b || d)
      | _, _ => none) = _
    rw [e1, e2]; rfl
theorem kitAny_of {K : PySem.W.Frag} {mg : Str → Option Value} {cs ts hs fs : List Str} (T : ExAll K mg cs ts hs fs) {c : Str} (hc : c ∈ cs) : ∀ {l : List Str}, (∀ t ∈ l, t ∈ ts) → PySem.W.kitAny K (.ref (exA K c)) (l.map (exV K)) = some (l.any (exIs c))
  | [], _ => rfl
  | t :: l, h => by
    have e1 := (T.one c hc).is_ t (h t List.mem_cons_self)
    have e2 := kitAny_of T hc (l := l) fun t ht => h t (List.mem_cons_of_mem _ ht)
    show (match PySem.W.kitOne K (.ref (exA K c)) (exV K t) with
      | some true => some true
      | some false => PySem.W.kitAny K (.ref (exA K c)) (l.map (exV K))
      | none => none) = _
    rw [e1, List.any_cons]
    cases exIs c t with
    | true => rfl
    | false => exact e2
/-- the clause's answer by the class's name -/
def exTab (cs hs : List Str) (c : Str) : Option Bool := if c ∈ cs then some (hs.any (exIs c)) else none
theorem exTab_ok {K : PySem.W.Frag} {mg : Str → Option Value} {cs ts hs fs l : List Str} (T : ExAll K mg cs ts hs fs) (hl : ∀ t ∈ l, t ∈ hs) : ∀ c cls b, mg c = some cls → exTab cs l c = some b → PySem.W.exmAny K cls (l.map (exV K)) = some b := fun c cls b hm e => by
  unfold exTab at e
  split at e
  · rename_i hc
    cases e
    rw [(T.one c hc).at_] at hm
    cases hm
    exact exmAny_of T hc hl
  · cases e

/-! ### the instance -/
section
variable {X : Cx} {pins : List (Addr × Obj)} {σ : L2.St} {H : Hp} {s : Shared} {F : Addr → Prop} {a D : Addr} {d : Option Addr} {f : Str} {vs : List V}
theorem inst_at (I : Inv X pins σ H s) (h : ExAt H a (.ref D) d) (hf : FldR F H f d vs) : ∃ oe od, PySem.W.InstAt s.heap a oe D od ∧ ∀ y, vs = [y] → ∃ o u, od = some o ∧ PySem.W.lookIn f o = some (some u) ∧ RelV y u := by
  obtain ⟨oe, vs', e, e1, e2, e3, e4⟩ := h
  have at_ := (I.hok a _ e).1
  have no : PySem.W.notCls oe = true := by unfold PySem.W.notCls; rw [e3] <;> rfl
  rcases hf with ⟨ed, ev⟩ | ⟨dd, y, ed, ev, hF, hd⟩
  · exact ⟨oe, none, ⟨at_, e1, no, by rw [e2, ed]; trivial⟩, fun y z => by rw [ev] at z; cases z⟩
  · have hx : ObjOk X.prog X.w H s.heap dd (.xd [(f, y)]) := I.hok dd _ hd
    obtain ⟨mA, ns, rl⟩ := hx
    obtain ⟨od, ho, hl⟩ := lookIn_ns ns
    obtain ⟨u, hu, ru⟩ := RelO.some_of (v := y) (o := mA f) (by have := rl f; simpa using this)
    refine ⟨oe, some od, ⟨at_, e1, no, by rw [e2, ed]; exact ho⟩, fun y' z => ?_⟩
    rw [ev] at z
    cases z
    exact ⟨od, u, rfl, by rw [hl, hu], ru⟩
end
section
variable {X : Cx} {C : Addr} {W : WX} {e : Expr} {es : List Expr} {md : M D} {pos p q qp : Pos} {kk : Nat} {n : Str} {cs ts hs fs l : List Str}
/-- the class names in the text stand for the classes -/
def NamesC (X : Cx) (es : List Expr) (l : List Str) : Prop := PA X es (fun _ H Q => Q (l.map (exW X.K)) H)
theorem nc_nil : NamesC X [] [] := paImp pa_nil fun σ H Q h => h
theorem nc_own {x : Str} (T : ExAll X.K X.mg cs ts hs fs) (hx : x ∈ cs) (hb : exBlt x = none) (hg : Gl X x) (hr : NamesC X es l) (hdb : (x == ("__debug__" : Str)) = false := by decide) (he : starEach (.Name x p :: es) X.env = (false, eval (.Name x p) X.env) :: starEach es X.env := by rfl) : NamesC X (.Name x p :: es) (x :: l) :=
  paImp (pa_cons (te := tC (.ref (exA X.K x))) ⟨fun pins s σ H Q I h => ld_glob I hg (T.one x hx).at_ ⟨V.ref _, H, I, rfl, h⟩ hdb⟩ hr he) fun σ H Q h => by
    have : exW X.K x = .ref (exA X.K x) := by unfold exW; rw [hb]
    show Q (V.ref (exA X.K x) :: l.map (exW X.K)) H
    rw [← this]; exact h
theorem nc_blt {x : Str} {s : String} (hb : exBlt x = some s) (hm : X.mg x = none) (hv : bootBuiltins x = some (.type s)) (hg : Gl X x) (hr : NamesC X es l) (hn : x ≠ "__name__" := by decide) (hdb : (x == ("__debug__" : Str)) = false := by decide) (he : starEach (.Name x p :: es) X.env = (false, eval (.Name x p) X.env) :: starEach es X.env := by rfl) : NamesC X (.Name x p :: es) (x :: l) :=
  paImp (pa_cons (te := tC (.ty s)) ⟨fun pins s0 σ H Q I h => ld_blt I hg hm hv ⟨V.ty s, H, I, rfl, h⟩ hn hdb⟩ hr he) fun σ H Q h => by
    have : exW X.K x = .ty s := by unfold exW; rw [hb]
    show Q (V.ty s :: l.map (exW X.K)) H
    rw [← this]; exact h
/-- isinstance of an exception -/
def isxM (cs l : List Str) (d : D) : M D := match d with
  | .exn c _ _ => ask (c ∈ cs) (ret (.bl (l.any (exIs c))))
  | _ => fail
theorem kitx_at {K : PySem.W.Frag} {mg : Str → Option Value} {c : Str} {a : Addr} {oe : Obj} {od : Option Obj} (T : ExAll K mg cs ts hs fs) (hc : c ∈ cs) : PySem.W.KitX K (.ref a) (.ref (exA K c)) (fun h => PySem.W.InstAt h a oe (exA K c) od) :=
  have t := T.one c hc
  PySem.W.kitx_exc t.cl t.ga t.gg t.be t.cc T.sp T.tk t.mo
theorem e_isx1 {c : Expr} {t : Str} (T : ExAll X.K X.mg cs ts hs fs) (hg : Gl X "isinstance") (hm : X.mg "isinstance" = none) (ha : PE X e (tD (gx X C) W md)) (hc : NamesC X [c] [t]) (ht : t ∈ ts) (he : starEach [e, c] X.env = (false, eval e X.env) :: starEach [c] X.env := by rfl) (hpl : (backTo pos (starEach [c] X.env)).any (·.1) = false := by rfl) :
    PE X (.Call (.Name "isinstance" p) [e, c] [] pos) (tD (gx X C) W (bnd md (isxM cs [t]))) := by
  have call : CallR X (.builtin "isinstance") (fun xs H Q => ∃ F a d nm f vs, xs = [.ref a, exW X.K t] ∧ nm ∈ cs ∧ ExAt H a (.ref (exA X.K nm)) d ∧ FldR F H f d vs ∧ Q (.bl (exIs nm t)) H) := by
    rintro pins s σ H xs us Q I r ⟨F, a, d, nm, f, vs, ex, hn, at_, fl, q⟩
    subst ex
    obtain ⟨oe, od, J, _⟩ := inst_at I at_ fl
    cases r with
    | cons rx rr => cases rr with
      | cons rt rr =>
        cases rr; cases rx
        have eu := (exW_cls X.K t).eq rt
        subst eu
        exact PySem.W.kia_one (kitx_at T hn) I.kIn J ((T.one nm hn).is_ t ht) (fun z => nomatch z) fun tk => ⟨.bl (exIs nm t), H, I.kept (t' := tk) fun _ _ z => z, rfl, q⟩
  exact peImp (pe_callB call hg hm boot_isinstance (pa_cons ha hc he) (by decide) (by decide) he hpl) fun σ H Q h => (lift1 (Ra := RD (gx X C)) h).imp fun x H1 ⟨B, F, env, d, pt, r⟩ => by
    cases d with
    | exn nm f ys =>
      obtain ⟨hn, pt⟩ := Pt.asked pt
      obtain ⟨a, cls, dd, vs, ex, hF, at_, hmg, rv, fl⟩ := r
      subst ex
      have ec : cls = .ref (exA X.K nm) := Option.some.inj (hmg.symm.trans (T.one nm hn).at_)
      subst ec
      exact ⟨F, a, dd, nm, f, vs, rfl, hn, at_, fl, pt.pure (b := V.bl (exIs nm t)) (by show V.bl (exIs nm t) = V.bl ([t].any (exIs nm)); simp)⟩
    | _ => exact (Pt.no pt).elim
/-- isinstance(e, (A, B, ..)) -/
theorem e_isxT (T : ExAll X.K X.mg cs ts hs fs) (hg : Gl X "isinstance") (hm : X.mg "isinstance" = none) (ha : PE X e (tD (gx X C) W md)) (hc : NamesC X es l) (hl : ∀ t ∈ l, t ∈ ts) (hz : l.length ≤ 100) (he : starEach [e, .Tuple es kk qp] X.env = (false, eval e X.env) :: starEach [.Tuple es kk qp] X.env := by rfl)
    (h2 : starEach [.Tuple es kk qp] X.env = (false, eval (.Tuple es kk qp) X.env) :: starEach [] X.env := by rfl) (hpl : (backTo pos (starEach [.Tuple es kk qp] X.env)).any (·.1) = false := by rfl) :
    PE X (.Call (.Name "isinstance" p) [e, .Tuple es kk qp] [] pos) (tD (gx X C) W (bnd md (isxM cs l))) := by
  have call : CallR X (.builtin "isinstance") (fun xs H Q => ∃ F a d nm f vs t ob, xs = [.ref a, .ref t] ∧ nm ∈ cs ∧ ExAt H a (.ref (exA X.K nm)) d ∧ FldR F H f d vs ∧ H t = some (.frz ob (.tup (l.map (exW X.K)))) ∧ Q (.bl (l.any (exIs nm))) H) := by
    rintro pins s σ H xs us Q I r ⟨F, a, d, nm, f, vs, t, ob, ex, hn, at_, fl, tt, q⟩
    subst ex
    obtain ⟨oe, od, J, _⟩ := inst_at I at_ fl
    obtain ⟨its, rv, ⟨⟨cl, dd, da, sl⟩, look, ec, n, ed⟩, _⟩ := I.tuple (.inl (.inr ⟨ob, tt⟩))
    simp only at ec ed
    subst ec; subst ed
    have ei := exW_vals rv
    cases r with
    | cons rx rr => cases rr with
      | cons rt rr =>
        cases rr; cases rx; cases rt
        exact PySem.W.kia_tup (kitx_at T hn) I.kIn J look (by rw [ei]; exact kitAny_of T hn hl) (fun z => nomatch z) fun tk => ⟨.bl (l.any (exIs nm)), H, I.kept (t' := tk) fun _ _ z => z, rfl, q⟩
  exact peImp (pe_callB call hg hm boot_isinstance (pa_cons ha (pa_cons (DLt.pf_tup hc) pa_nil h2) he) (by decide) (by decide) he hpl) fun σ H Q h => (lift1 (Ra := RD (gx X C)) h).imp fun x H1 ⟨B, F, env, d, pt, r⟩ => by
    cases d with
    | exn nm f ys =>
      obtain ⟨hn, pt⟩ := Pt.asked pt
      obtain ⟨a, cls, dd, vs, ex, hF, at_, hmg, rv, fl⟩ := r
      subst ex
      have ec : cls = .ref (exA X.K nm) := Option.some.inj (hmg.symm.trans (T.one nm hn).at_)
      subst ec
      refine ⟨by rw [List.length_map, sizeLine_eq]; omega, fun ob t _ nt => ?_⟩
      have st : Stp B F H1 F (upd H1 t (.frz ob (.tup (l.map (exW X.K))))) := stp_new nt
      obtain ⟨Qd, Ed, rel, hm1, hq, _⟩ := pt
      exact ⟨F, a, dd, nm, f, vs, t, ob, rfl, hn, at_.mono st hF, fl.mono st, upd_same, hq _ env _ F _ hm1 st (rel.new nt) rfl⟩
    | _ => exact (Pt.no pt).elim
/-- e.n of an exception -/
def xfM (cs : List Str) (n : Str) (d : D) : M D := match d with
  | .exn c f [y] => ask (c ∈ cs ∧ f = n) (ret y)
  | _ => fail
theorem e_xf (T : ExAll X.K X.mg cs ts hs fs) (hn : n ∈ fs) (he : PE X e (tD (gx X C) W md)) (hb : attributeBase e n X.env (eval e X.env) = eval e X.env := by rfl) : PE X (.Attribute e n pos) (tD (gx X C) W (bnd md (xfM cs n))) := ⟨fun pins s σ H Q I h => by
  refine attr_of hb (thn (he.run pins s σ H _ I (lift1 (Ra := RD (gx X C)) h)) fun u s1 ⟨x, H1, I1, rx, B, F, env, d, pt, r⟩ => ?_)
  cases d with
  | exn c f ys =>
    cases ys with
    | nil => exact (Pt.no pt).elim
    | cons y ys => cases ys with
      | cons _ _ => exact (Pt.no pt).elim
      | nil =>
        obtain ⟨⟨hc, ef⟩, p2⟩ := Pt.asked pt
        subst ef
        obtain ⟨a, cls, dd, vs, ex, hF, at_, hmg, ⟨v, r', ev, rv, er⟩, fl⟩ := r
        subst ex
        cases (show _ = _ from er)
        have t := T.one c hc
        have ec : cls = .ref (exA X.K c) := Option.some.inj (hmg.symm.trans t.at_)
        subst ec
        obtain ⟨oe, od, J, look⟩ := inst_at I1 at_ fl
        obtain ⟨o, w, eo, hl, rw⟩ := look v ev
        subst eo
        cases (show u = Value.ref a from rx)
        exact HandSPX.exc_get I1.kIn J t.ga t.gg t.be (PySem.W.findObj_own t.dc (t.fd f hn) rfl hl) (handed_of rw) ⟨v, H1, I1.tok _, rw, p2.pure rv⟩
  | _ => exact (Pt.no pt).elim⟩
end

/-! ### an except suite, its first statement -/
def retR (r : Res) : M Fl := ret (.rt r)
section
variable {X : Cx} {C a : Addr} {W : WX} {e : Expr} {st : Stmt} {rest body : List Stmt} {m m1 m2 : M Fl} {mr : M Res} {pos : Pos}
theorem h_ret (he : PE X e (LiftH (gx X C) W (RRs (gx X C)) a mr)) : PS X (.Return (some e) pos) (tSH (gx X C) W a (bnd mr retR)) :=
  psImp (ps_ret he) fun D σ H ⟨B, F, env, ⟨Qd, Ed, rel, hm, h1, h2, h3, h4, h5⟩, hot⟩ => by
    refine ⟨B, F, env, ⟨fun r env' => Qd (.rt r) env', Ed, rel, hm, fun r env' v F' H' q st rl rr => h4 r env' σ F' H' v q st rl ?_, fun x env' cls d F' H' => h5 x env' σ cls d F' H'⟩, hot⟩
    cases r with
    | d d => exact rr
    | o o =>
      obtain ⟨b, eb, nF, nB, ho, hn⟩ := rr
      exact ⟨b, eb, nF, nB, ho, fun i c q z w => hn i ⟨⟨_, z, rfl⟩, by rw [← w]; exact (rl.sl i _ z).1⟩⟩
theorem h_all (h : PSs X body (tS (gx X C) W m)) : PSs X body (tSH (gx X C) W a m) := pssImp h fun D σ H ⟨B, F, env, p, _⟩ => ⟨B, F, env, p⟩
theorem h_one (h : PS X st (tSH (gx X C) W a m)) : PSs X [st] (tSH (gx X C) W a m) := pss_one h
end
end DL

set_option Elab.async false
set_option linter.all false
set_option maxRecDepth 100000
set_option maxHeartbeats 2000000
/-! caught(lambda: e): def caught(act): try: return act() / except (A, B, C) as x: return sort(x). -/
namespace DL
open PySem PySem.Spec PyProof.Rows L2
variable [Tbs]

/-- the rule of a def that makes lambdas: its code object is known -/
theorem fnDc {P : Program} {w : World} {K : PySem.W.Frag} {mg : Str → Option Value} {base : Heap} {k n : Nat} {f C c : Addr} {x qual : Str} {st : Stmt} {fd : FuncData} {N ps : List Str} {m : M Fl} (Fn : Fun K x qual st f fd) (S : FnScope N ps (defScope st)) (hn : n = ps.length) (hN : n ≤ N.length) (hc : fd.code = .ref c)
    (body : ∀ (A : Around) (outer : List Env) (s : Shared) (H : Hp) (E : XK), Room k (A.deeper (envOfC qual (defScope st) s.heap.objs.size f (.ref c))) → A.guards = some [] →
      PSs (cxOf (L2N.CX P w) P w K mg base N qual (defScope st) f (.ref c) A outer s H E) (defBody st) (tS ⟨C, mg, K, w, P⟩ (WE1 E) m)) : FnG P w K mg base (k + 1) f fd ps (spD ⟨C, mg, K, w, P⟩ n (defM N.length m)) :=
  fnG_ofc Fn S (fun vs H Q E h => h.1.trans hn) fun cdv ec A outer s H vs Q E hr hG h => by
    rw [hc] at ec
    subst ec
    exact ⟨_, body A outer s H E hr hG, spD_tS hN h⟩
/-- its code object by the table -/
theorem code_by {K : PySem.W.Frag} {h : Heap} {mg : Str → Option Value} {x qual : Str} {st : Stmt} {f c P : Addr} {fd : FuncData} (Fn : Fun K x qual st f fd) (hm : mg x = some (.ref f)) (kin : K.In h) (G : h.Ns mainGlobals mg) (t : PySem.W.tabIn K x = some (c, P)) : fd.code = .ref c := by
  obtain ⟨oc, od, kV, doc, pm, an, cdv, ct, osl, ef, lk, _⟩ := Fn.ex
  unfold PySem.W.tabIn at t
  split at t
  · rename_i f' hf
    have e := (PySem.W.mg_of kin G hf).symm.trans hm
    cases e
    rw [lk] at t
    dsimp only at t
    split at t
    · rename_i c' hc
      split at t
      · split at t
        · cases t; exact hc
        · cases t
      · cases t
    · cases t
  · cases t

/-- the context of a lambda's body -/
abbrev cxLam (X : Cx) (A : Around) (outer : List Env) (s : Shared) (H : Hp) (E : XK) (scope : Scope) (f c' : Addr) : Cx :=
  (LamX.lamCx X A outer s H E scope f c').tr [] fun e s' => wpAny (model X.prog X.w) (A.deeper (LamX.lamEnv X scope s.heap.objs.size f c')) (leaving (LamX.lamEnv X scope s.heap.objs.size f c') e) (fun _ s'' => L2N.CX X.prog X.w outer H s E e s'') (fun e' s'' => L2N.CX X.prog X.w outer H s E e' s'') s'
section
variable {X : Cx} {pins : List (Addr × Obj)} {σ : L2.St} {H : Hp} {s : Shared}
/-- act(), in the def that got the lambda -/
theorem act_run {Eg : XK} {Ng : List Str} {qg : Str} {sg : Scope} {g f c' : Addr} {cdg pm ctv : Value} {params : Arguments} {body : Expr} {scope : Scope} {k i : Nat} {a : Str} {pn : List (Addr × Obj)} {xe : Value → Shared → Prop} {W : WX} {tb : XK → TE} {p1 p2 : Pos}
    (I : Inv X pins σ H s) (L : LamX.LamS X.env.scope scope) (made : s.heap.get? f = some (PySem.W.kla_obj "<lambda>" (X.env.qual ++ "<lambda>") params body scope (cloFrom X.env.cells scope.names []) pm c' ctv)) (nf : H f = none) (nfr : f ∉ frs X.stack)
    (none_ : bindArgs (PySem.W.kla_fn "<lambda>" (X.env.qual ++ "<lambda>") params body scope (cloFrom X.env.cells scope.names []) pm (.ref c') ctv) ⟨[], []⟩ = pure [])
    (tk : L2N.Takes ((cxOf (L2N.CX X.prog X.w) X.prog X.w X.K X.mg X.base Ng qg sg g cdg X.A X.stack s H Eg).tr pn xe) W) (hr : Room (k + 1) (X.A.deeper (envOfC qg sg s.heap.objs.size g cdg))) (hG : X.A.guards = some [])
    (hbody : ∀ (A : Around) (outer : List Env) (s : Shared) (H : Hp) (E : XK), Room k (A.deeper (LamX.lamEnv X scope s.heap.objs.size f c')) → A.guards = some [] → PE (cxLam X A outer s H E scope f c') body (tb E))
    (hN : Ng[i]? = some a) (hv : Vis sg a) (hd : (a == ("__debug__" : Str)) = false := by decide) (hcd : (a == ("__classdict__" : Str)) = false := by decide) :
    PE ((cxOf (L2N.CX X.prog X.w) X.prog X.w X.K X.mg X.base Ng qg sg g cdg X.A X.stack s H Eg).tr pn xe) (.Call (.Name a p1) [] [] p2)
      (fun σZ HZ Q => σZ[i]? = some (some (.ref f)) ∧ HZ c' = some (LamX.CodeO c' (X.env.qual ++ "<lambda>")) ∧ tb (WE W σZ) σ HZ Q) := ⟨fun pinsZ sZ σZ HZ Q IZ ⟨at_, hc, ht⟩ => by
  refine wpAny_Call_Name_kw (thn ((pe_var (pos := p1) (i := i) hN hv hd hcd).run pinsZ sZ σZ HZ (fun v H1 => v = .ref f ∧ H1 = HZ) IZ ⟨.ref f, at_, rfl, rfl⟩) fun u s1 ⟨v, H1, I1, r1, ev, eH⟩ => ?_)
  subst ev eH
  cases (show u = Value.ref f from r1)
  have there := I1.base.keep f _ made nf nfr (fun z => nomatch (show f ∈ ([] : List Addr) from z))
  have un : Un (frs X.stack) [] H H1 s.heap s1.heap := I1.base
  obtain ⟨⟨oc, vs, t, o1, o2, o3⟩, _, _⟩ := I1.hok c' _ hc
  have ran : codeAny (model X.prog X.w) (X.A.deeper (envOfC qg sg s.heap.objs.size g cdg)) (.call (.ref f) ⟨[], []⟩) (CR (L2N.CX X.prog X.w) (envOfC qg sg s.heap.objs.size g cdg :: X.stack) X.prog X.w H1 s1 Q (WE W σZ)) s1 := by
    refine PySem.W.kla_callFunE hr.depth there rfl L.co L.gen rfl ⟨c', oc, vs, t, rfl, o1, o2, o3⟩ ?_
    rw [none_]
    refine wpAny_pure (wpAny_newFunctionEnv (fun y hy => (L.own y hy).2) (fun y hy => absurd hy (by simp)) (fun h1 hns hsb => ⟨I1.nolimit.fresh _ hsb, ?_⟩) L.kind)
    show codeAny _ _ (.expr body (LamX.lamEnv X scope s1.heap.objs.size f c')) _ _
    have up : ∀ b o, s1.heap.get? b = some o → h1.get? b = some o := fun b o e => hsb.extBut b o (Nat.ne_of_lt (Heap.lt_size e)) (Heap.get?_push_of_some _ e)
    have J := LamX.lam_start2 (A := X.A.deeper (envOfC qg sg s.heap.objs.size g cdg)) (outer := envOfC qg sg s.heap.objs.size g cdg :: X.stack) (E := WE W σZ) (f := f) (c' := c') (tk := s1.toks + ([] : List (Str × Value)).length) I L I1.env0 hr.hd un hns up
    have J2 := J.toTry fun e s' => wpAny (model X.prog X.w) ((X.A.deeper (envOfC qg sg s.heap.objs.size g cdg)).deeper (LamX.lamEnv X scope s1.heap.objs.size f c')) (leaving (LamX.lamEnv X scope s1.heap.objs.size f c') e) (fun _ s'' => L2N.CX X.prog X.w (envOfC qg sg s.heap.objs.size g cdg :: X.stack) H1 s1 (WE W σZ) e s'') (fun e' s'' => L2N.CX X.prog X.w (envOfC qg sg s.heap.objs.size g cdg :: X.stack) H1 s1 (WE W σZ) e' s'') s'
    exact PySem.W.kla_codeExpr (wpAny_mono ((hbody _ _ s1 H1 (WE W σZ) (hr.deeper _) hG).run [] _ _ H1 Q J2 ht) (fun v s' ⟨w', H', J', rv, q⟩ => ⟨w', H', J'.os, J'.bare, J'.base, J'.hok, rv, q⟩) fun e s' hq => hq)
  refine PySem.W.callWith_F0 ⟨_, _, _, _, there⟩ (wpAny_call (codeAny_mono ran fun r s' hq => ?_))
  match r, hq with
  | .error e, hq => exact L2N.passAt tk σZ pinsZ _ s1 e s' I1 hq
  | .ok (.ret u), hq => exact I1.after hq
  | .ok .next, hq => exact (show False from hq).elim
  | .ok .brk, hq => exact (show False from hq).elim
  | .ok .cont, hq => exact (show False from hq).elim⟩
end
/-- the body of caught -/
abbrev caughtB (p1 p2 p3 p4 p5 p6 p7 p8 p9 p10 p11 p12 p13 : Pos) (k : Nat) : List Stmt :=
  [.Try [.Return (some (.Call (.Name "_law_act" p1) [] [] p2)) p3] [.ExceptHandler (some (.Tuple [.Name "SeatError" p4, .Name "StateError" p5, .Name "GreatError" p6] k p7)) (some "_law_e") [.Return (some (.Call (.Name "_law_sort" p8) [.Name "_law_e" p9] [] p10)) p11] p12] [] [] p13]
/-- what of the text caught's scope must say -/
structure CaughtS (sg : Scope) : Prop where
  sc : FnScope ["_law_act", "_law_e"] ["_law_act"] sg
  a : sg.names.lookup ("_law_act" : Str) = some NameKind.local
  e : sg.names.lookup ("_law_e" : Str) = some NameKind.local
  c1 : sg.names.lookup ("SeatError" : Str) = some NameKind.globalImplicit
  c2 : sg.names.lookup ("StateError" : Str) = some NameKind.globalImplicit
  c3 : sg.names.lookup ("GreatError" : Str) = some NameKind.globalImplicit
  so : sg.names.lookup ("_law_sort" : Str) = some NameKind.globalImplicit
def caughtL : List Str := ["SeatError", "StateError", "GreatError"]
/-- caught(lambda: m), sort being df -/
def caughtM (cs : List Str) (df : DF) (m : M D) : M Res := fun env Q E => m env (fun d env1 => Q (.d d) env1) fun x env1 => match exTab cs caughtL x.cls with
  | some true => df [.im (exnD x)] (fun r _ => Q r env1) fun _ _ => False
  | some false => E x env1
  | none => False
section
variable {X : Cx} {C : Addr} {W : WX}
theorem e_caught {cs ts hs fs : List Str} {g c P fs' : Addr} {k k2 : Nat} {stg : Stmt} {fdg fds : FuncData} {df : DF} {params : Arguments} {body : Expr} {scope : Scope} {p lpos pos p1 p2 p3 p4 p5 p6 p7 p8 p9 p10 p11 p12 p13 : Pos} {kt : Nat} {mb : M D}
    (T : ExAll X.K X.mg cs ts hs fs) (hcs : ∀ t ∈ caughtL, t ∈ cs ∧ t ∈ hs) (hg : Gl X "_law_caught") (hm : X.mg "_law_caught" = some (.ref g)) (Fg : Fun X.K "_law_caught" "_law_caught" stg g fdg) (Sg : CaughtS (defScope stg)) (bg : L2.Binds X.K fdg ["_law_act"] []) (hst : defBody stg = caughtB p1 p2 p3 p4 p5 p6 p7 p8 p9 p10 p11 p12 p13 kt)
    (Fs : FnGh X.prog X.w X.K X.mg X.base k2 fs' fds ["_law_e"] (spD (gx X C) 1 df)) (ms : X.mg "_law_sort" = some (.ref fs')) (ks : PySem.W.keepIn X.K (.ref fs') = true) (bs : L2.Binds X.K fds ["_law_e"] [])
    (TB : LamX.TabB X.base X.mg c P) (hcode : X.env.code = .ref c) (hT : (P, X.env.qual ++ "<lambda>") ∈ Tbs.T) (hu : ∀ q ∈ Tbs.T, q.1 = P → q.2 = X.env.qual ++ "<lambda>") (hr : Room (k + 2) X.A) (hr2 : k2 ≤ k + 1) (hG : X.A.guards = some []) (tk : L2N.Takes X W)
    (L : LamX.LamS X.env.scope scope) (hdef : defaultsOf params X.env = ([], [])) (hbind : ∀ (q : Str) (cl : List (Str × Addr)) (pm cv ctv : Value), bindArgs (PySem.W.kla_fn "<lambda>" q params body scope cl pm cv ctv) ⟨[], []⟩ = pure [])
    (hbody : ∀ (A : Around) (outer : List Env) (s : Shared) (H : Hp) (E : XK) (f c' : Addr), Room k (A.deeper (LamX.lamEnv X scope s.heap.objs.size f c')) → A.guards = some [] → PE (cxLam X A outer s H E scope f c') body (tD (gx X C) (WE1 E) mb)) :
    PE X (.Call (.Name "_law_caught" p) [.Lambda params body scope lpos] [] pos) (tRs (gx X C) W (caughtM cs df mb)) := ⟨fun pins s σ H Q I ⟨B, F, env, Qd, Ed, rel, hm1, hq, he⟩ => by
  refine wpAny_Call_Name_kw (ld_glob I hg hm (PySem.W.callWith_K (h₀ := X.base) I.ok.mod.kin Fg.kp ?_ (by rfl) (by rfl)) (by decide))
  show wpAny _ _ (spliced ((false, eval (.Lambda params body scope lpos) X.env) :: backTo pos (starEach [] X.env))) _ _ s
  refine Calls.spliced_cons (LamX.lam_make2 (T := Tbs.T) I TB hcode hT hu rel.tb hdef (L.has I.ok) fun f c' pm' ctv H1 s' I1 eN T1 hf hfn hfr hco => Calls.spliced_nil ⟨I1.kIn, ?_⟩)
  obtain ⟨oc, od, kV, doc, pm, an, cdv, ct, osl, rfl, lk, hcd⟩ := Fg.ex
  -- the caller's slots, behind the making of the lambda
  have nt : ∀ {b : Addr}, Nt H b → H1 b = H b ∧ Nt H1 b := fun {b} n => by
    cases e : H b with
    | none => exact absurd e n.1
    | some o =>
      have no : ∀ ps, o ≠ .tbl ps := fun ps z => n.2 ps (e.trans (congrArg some z))
      have e1 := eN b o e no
      exact ⟨e1, Nt.of e1 no⟩
  have stL : Stp B F H F H1 := ⟨fun _ z => z, fun _ z => .inl z, fun b o _ e n => eN b o e n, fun b vs z => z.imp (fun e => eN b _ e (fun ps y => nomatch y)) fun ⟨o, e⟩ => ⟨o, eN b _ e (fun ps y => nomatch y)⟩, fun _ => T1⟩
  have rel1 : Rel (gx X C) B F σ env H1 := rel.step stL (fun i b o => ⟨(nt ⟨(rel.ownSome o).1, rel.ownTab o⟩).1, (rel.ownSome o).2.1⟩) fun b z => (nt (rel.hF b z)).2
  have nm : ∀ t ∈ caughtL, (defScope stg).names.lookup t = some NameKind.globalImplicit → exBlt t = none → ∀ Z : Cx, Z.mg = X.mg → Z.env.scope = defScope stg → (t == ("__debug__" : Str)) = false → Names Z t (exV X.K t) := fun t ht hl hb Z e1 e2 hd => by
    refine ⟨by show Z.env.scope.names.lookup t = _; rw [e2]; exact hl, hd, .inl ?_⟩
    rw [e1, (T.one t (hcs t ht).1).at_]
    unfold exV
    rw [hb]
  have ran : codeAny (model X.prog X.w) X.A (.call (.ref g) ⟨[.ref f], []⟩) (CR (L2N.CX X.prog X.w) X.stack X.prog X.w H1 s' Q (WE W σ)) s' := by
    refine LamX.run_ofS (k := k + 1) (N := ["_law_act", "_law_e"]) (ps := ["_law_act"]) (us := [.ref f]) (vs := [.ref f]) lk hcd Sg.sc hr I1.env0 (bg s' [.ref f] I1.kIn rfl) (.cons rfl .nil) rfl fun hr' => ?_
    rw [hst]
    have act : ∀ (W' : WX) (pn : List (Addr × Obj)) (xe : Value → Shared → Prop), L2N.Takes ((cxOf (L2N.CX X.prog X.w) X.prog X.w X.K X.mg X.base ["_law_act", "_law_e"] "_law_caught" (defScope stg) g cdv X.A X.stack s' H1 (WE W σ)).tr pn xe) W' → _ :=
      fun W' pn xe tk' => act_run (p1 := p1) (p2 := p2) (a := "_law_act") (i := 0) (tb := fun E => tD (gx X C) (WE1 E) mb) I1 L hf hfn hfr (hbind _ _ _ _ _) tk' hr' hG (fun A outer s H E r gA => hbody A outer s H E f c' r gA) rfl (.inl Sg.a)
    refine ⟨_, pss_one (ps_tryX (X := cxOf (L2N.CX X.prog X.w) X.prog X.w X.K X.mg X.base ["_law_act", "_law_e"] "_law_caught" (defScope stg) g cdv X.A X.stack s' H1 (WE W σ)) (i := 1) (Wout := fun cls d _ H => WE W σ cls d H)
      (tb := fun W' D σZ HZ => σZ[0]? = some (some (.ref f)) ∧ HZ c' = some (LamX.CodeO c' (X.env.qual ++ "<lambda>")) ∧ tD (gx X C) (WE1 (WE W' σZ)) mb σ HZ D.rt) (ts := fun a => tSH (gx X C) WN a (bnd (bnd (consM (dVar 1) (ret [])) (callD1 1 df)) retR))
      rfl rfl rfl Sg.sc.nd rfl Sg.e (xt_3 (nm "SeatError" (by decide) Sg.c1 (by decide) _ rfl rfl (by decide)) (nm "StateError" (by decide) Sg.c2 (by decide) _ rfl rfl (by decide)) (nm "GreatError" (by decide) Sg.c3 (by decide) _ rfl rfl (by decide))) (L2N.takes_of rfl rfl rfl rfl)
      (fun W' pn xe tk' _ => pss_one (ps_ret (act W' pn xe tk'))) fun a pn => ?_), ?_⟩
    · have vE : ∀ Z : Cx, Z.N = (["_law_act", "_law_e"] : List Str) → Z.env.scope = defScope stg → PE Z (.Name "_law_e" p9) (tVar 1) := fun Z e1 e2 => pe_var (by rw [e1]; rfl) (by rw [e2]; exact .inl Sg.e)
      refine h_one (h_ret (c_hot (X := (cxOf (L2N.CX X.prog X.w) X.prog X.w X.K X.mg X.base ["_law_act", "_law_e"] "_law_caught" (defScope stg) g cdv X.A X.stack s' H1 (WE W σ)).suite a pn) Fs (RoomX.mono ⟨hr'.dp, hr'.un⟩ hr2) hG rfl takes0N Sg.so ms ks bs rfl (a_cons (e_var (vE _ rfl rfl)) a_nil)))
    · refine ⟨rfl, hco, B, F, env, fun d env1 => Qd (.d d) env1, _, rel1, hm1, fun d env1 v F2 H2 q st rl rv => hq (.d d) env1 v F2 H2 q (stL.trans st) rl rv, fun x env1 cls d F2 H2 q st rl rx => ?_⟩
      cases e : exTab cs caughtL x.cls with
      | none => simp only [e] at q
      | some b =>
        have eb := exTab_ok T (fun t ht => (hcs t ht).2) _ _ _ rx.1 e
        refine ⟨b, eb, fun z a oe vs na e1 e2 e3 e4 => ?_, fun z => ?_⟩
        · subst z
          simp only [e] at q
          have nB : ∀ c, B c → Nt H2 c := rl.hB
          have own : ∀ i c, OwnAt env1 σ i c → Nt H2 c := fun i c o => ⟨(rl.ownSome o).1, rl.ownTab o⟩
          have stx : Stp B F2 H2 (fun c => F2 c ∨ c = a) (upd H2 a (exF a oe)) := stp_newF na (rl.notB na)
          have up : ∀ c, Nt H2 c → Nt (upd H2 a (exF a oe)) c := fun c n => n.keep fun b o q => by rw [upd_ne (ne_of_none q na)]; exact q
          have relS : Rel (gx X C) (Nt H2) (fun c => F2 c ∨ c = a) [some (.ref f), some (.ref a)] [.no, .im (exnD x)] (upd H2 a (exF a oe)) := by
            refine ⟨rfl, fun i s z => ?_, fun i j c ⟨⟨s, z, o⟩, _⟩ _ => ?_, up, fun c z => z.elim (fun y => up c (rl.hF c y)) fun y => by subst y; exact Nt.of upd_same, stx.tb rl.tb⟩
            · match i, z with
              | 0, z => cases (Option.some.inj z); trivial
              | 1, z => cases (Option.some.inj z); exact ⟨.ref a, rfl, exn_rp (B := B) rx na (rl.notB na) e1 e2 e3 e4⟩
              | _ + 2, z => cases z
            · match i, z with
              | 0, z => cases (Option.some.inj z); cases o
              | 1, z => cases (Option.some.inj z); cases o
              | _ + 2, z => cases z
          refine ⟨Nt H2, fun c => F2 c ∨ c = a, [.no, .im (exnD x)], ⟨fun fl _ => match fl with
            | .rt r => Qd r env1
            | _ => False, fun _ _ => False, relS, ⟨rfl, q⟩, fun _ _ _ _ z => z.elim, fun _ _ _ _ z => z.elim, fun _ _ _ _ z => z.elim, fun r env3 σ3 F3 H3 v z st3 rl3 rr => ?_, fun _ _ _ _ _ _ _ z => z.elim⟩, .inr rfl, cls, d, oe, vs, upd_same, e1, e2, e3, e4⟩
          have relC : Rel (gx X C) B (fun c => F2 c ∨ c = a) σ env1 (upd H2 a (exF a oe)) := rl.newF na
          have hBB : ∀ c, B c → Nt H2 c := nB
          obtain ⟨st4, rel4⟩ := relC.called st3 hBB own rl3.hF
          exact hq r env1 v F3 H3 z (stL.trans (st.trans (stx.trans st4))) rel4 (resR_called hBB (fun c n _ i o => n (own i c o)) rr)
        · subst z
          simp only [e] at q
          exact he x env1 cls d F2 H2 q (stL.trans st) rl rx
  refine wpAny_call (codeAny_mono ran fun r s2 hq2 => ?_)
  match r, hq2 with
  | .error e, hq2 => exact L2N.passAt tk σ pins H1 s' e s2 I1 hq2
  | .ok (.ret u), hq2 => exact I1.after hq2
  | .ok .next, hq2 => exact (show False from hq2).elim
  | .ok .brk, hq2 => exact (show False from hq2).elim
  | .ok .cont, hq2 => exact (show False from hq2).elim⟩
end
end DL

set_option Elab.async false
set_option linter.all false
set_option maxRecDepth 100000
set_option maxHeartbeats 2000000
/-! [e for k in range(n)] while an exception is handled. -/
namespace DL
open PySem PySem.Spec PyProof.Rows L2
variable [Tbs]
/-- a range's iterator has come -/
def RgI (X : Cx) (pins : List (Addr × Obj)) (σ : L2.St) (R : It → Hp → Prop) (itv : Value) (s : Shared) : Prop :=
  ∃ (it : Addr) (n : Nat) (H : Hp), itv = .ref it ∧ Inv X pins σ H s ∧ IsRangeIter s.heap it 0 (n : Int) 1 ∧ FpOk X pins H it ∧ R (Itr 0 n) H
section
variable {X : Cx} {tg elt a : Expr} {scope : Scope} {own : List (Str × Nat)} {ta : TA} {g : TG} {tt : TT} {te : TE} {ifs : List Expr} {p pos ipos : Pos}
theorem rg_it (hg : Gl X "range") (hm : X.mg "range" = none) (ha : PA X [a] ta) (na : starEach [a] X.env = [(false, eval a X.env)]) {pins : List (Addr × Obj)} {σ : L2.St} {H : Hp} {s : Shared} {R : It → Hp → Prop} (I : Inv X pins σ H s) (h : iRng1 ta σ H R) :
    wpAny (model X.prog X.w) X.A (eval (.Call (.Name "range" p) [a] [] ipos) X.env) (fun v s1 => wpAny (model X.prog X.w) X.A (pyIter v) (RgI X pins σ R) X.xe s1) X.xe s := by
  refine Call_ (ld_blt I hg hm boot_range (PyProof.Rows.callWith_type1 (thn (ha.run ipos pins s σ H _ I h) fun us s1 ⟨vs, H1, I1, r1, j, ev, j1, j2, q⟩ => ?_) na rfl))
  subst ev
  cases r1 with
  | cons r rr =>
    cases rr
    obtain ⟨t, rfl⟩ := r
    refine call_range_1 (wpAny_pyIter_range (IsRange.new ..) (small_one (by omega) (by omega) j1 j2) ?_)
    have J := I1.kept (t' := s1.toks + 1 + 1) (h' := s1.heap.push { cls := .type "range", data := .fields #[.int 0 s1.toks, .int j t, .int 1 (s1.toks + 1)] }) fun b o e => Heap.get?_push_of_some _ e
    refine ⟨_, j.toNat, H1, rfl, J.kept fun b o e => Heap.get?_push_of_some _ e, ?_, J.fpOk (Nat.le_refl _) (J.hok.fresh (Nat.le_refl _)), q⟩
    have e2 : ((j.toNat : Nat) : Int) = Builtin.Range.rangeSize 0 j 1 := by rw [rangeSize_one]; split <;> omega
    rw [e2]
    exact Heap.get?_push_size _ rfl
/-- an item of it; its end -/
theorem rg_next {Y : Cx} {it : Addr} {n i : Nat} {pins : List (Addr × Obj)} {σ : L2.St} {H : Hp} {s : Shared} {E : Value → Shared → Prop} {R : Option Value → Shared → Prop} (J : Inv Y pins σ H s) (st : IsRangeIter s.heap it (i : Int) ((n : Int) - (i : Nat)) 1) (f : FpOk Y pins H it) (hi : i < n)
    (go : ∀ t s', Inv Y pins σ H s' → IsRangeIter s'.heap it ((i + 1 : Nat) : Int) ((n : Int) - ((i + 1 : Nat) : Int)) 1 → R (some (.int (i : Nat) t)) s') : wpAny (model Y.prog Y.w) Y.A (pyNext (.ref it)) R E s := by
  obtain ⟨f0, f1, f2, f3, f4, f5⟩ := f
  refine wpAny_pyNext_range_item st (by omega) fun h' st' sb => go _ _ (J.turned (fun b o nb e => (sb.2 b nb).trans e) f0 f1 f3 f4 f5) ?_
  have e1 : ((i : Nat) : Int) + 1 = ((i + 1 : Nat) : Int) := by omega
  have e2 : (n : Int) - (i : Nat) - 1 = (n : Int) - ((i + 1 : Nat) : Int) := by omega
  rw [e1, e2] at st'
  exact st'
theorem rg_stop {Y : Cx} {it : Addr} {n i : Nat} {pins : List (Addr × Obj)} {σ : L2.St} {H : Hp} {s : Shared} {E : Value → Shared → Prop} {R : Option Value → Shared → Prop} (hx : HotX Y) (J : Inv Y pins σ H s) (st : IsRangeIter s.heap it (i : Int) ((n : Int) - (i : Nat)) 1) (f : FpOk Y pins H it) (hi : n ≤ i)
    (go : ∀ s', Inv Y pins σ H s' → R none s') : wpAny (model Y.prog Y.w) Y.A (pyNext (.ref it)) R E s := by
  obtain ⟨f0, f1, f2, f3, f4, f5⟩ := f
  obtain ⟨x1, hot⟩ := hx.at_ J
  exact HotX.pyNext_range_end_hot hot st (by omega) fun h' kp => go _ (J.turned (t' := s.toks) (fun b o _ e => kp b o e) f0 f1 f3 f4 f5)
theorem pe_lcH (hx : HotX X) (hN : X.N.Nodup) (hg0 : Gl X "range") (hm0 : X.mg "range" = none) (ha : PA X [a] ta) (ok : BlkOk X.N X.env.scope scope own)
    (hg : ∀ (s : Shared) (H : Hp) (c : Addr) (cl : List (Str × Addr)) (fp : List Addr), PG (X.blk s H scope (compEnvC scope cl c X.env) fp) tg g) (ht : ∀ (s : Shared) (H : Hp) (c : Addr) (cl : List (Str × Addr)) (fp : List Addr), PTs (X.blk s H scope (compEnvC scope cl c X.env) fp) ifs tt)
    (he : ∀ (s : Shared) (H : Hp) (c : Addr) (cl : List (Str × Addr)) (fp : List Addr), PE (X.blk s H scope (compEnvC scope cl c X.env) fp) elt te) (na : starEach [a] X.env = [(false, eval a X.env)] := by rfl) (nf : ∀ x, foldedSetIterable (.Call (.Name "range" p) [a] [] ipos) X.env x = pure x := by intro _; rfl) :
    PE X (.ListComp elt [⟨tg, .Call (.Name "range" p) [a] [] ipos, ifs, 0⟩] scope pos) (tLc (iRng1 ta) g tt te (own.map (·.2))) := ⟨fun pins s σ H Q I h => by
  rw [eval_ListComp]
  have frees : ∀ y ∈ scope.names, y.2 = .free → ∃ c, X.env.cells.lookup y.1 = some c := fun y hy e => (ok.free y hy e).elim (fun k => I.ok.has _ (.inl k)) fun k => I.ok.has _ (.inr k)
  refine wpAny_comprehension_free (use := none) rfl nf (closure_ok frees) ok.kind (fun y hy e => by rw [ok.uniq y hy, e]) (thn (rg_it hg0 hm0 ha na I h) fun xv sa hxv => thn hxv fun itv sb ⟨it, n, Hb, eit, Ib, stb, fb, q⟩ => ?_)
  subst eit
  refine wpAny_newObj_type (newEnv_comp ?_) (by show 0 ≤ sizeLine; decide)
  -- the list that grows
  have nD : Hb sb.heap.objs.size = none := Ib.hok.fresh (Nat.le_refl _)
  obtain ⟨W, ⟨m0, w0⟩, turn⟩ := q sb.heap.objs.size nD
  have Ic : Inv X pins σ (upd Hb sb.heap.objs.size (.lst [])) { sb with heap := sb.heap.push { cls := .type "list", data := .seq ([] : List Value).toArray } } :=
    Ib.laid (t' := sb.toks) (fun b o e => Heap.get?_push_of_some _ e) (Nat.le_refl _) ⟨Nat.zero_le _, [], 0, .nil, Heap.get?_push_size _ rfl⟩
  have itlt : it < sb.heap.objs.size := Heap.lt_size stb
  have fc : FpOk X pins (upd Hb sb.heap.objs.size (.lst [])) it := ⟨by rw [upd_ne (Nat.ne_of_lt itlt)]; exact fb.1, fb.2⟩
  generalize eS : ({ sb with heap := sb.heap.push { cls := .type "list", data := .seq ([] : List Value).toArray } } : Shared) = sc at Ic
  have hS : sc.heap = sb.heap.push { cls := .type "list", data := .seq ([] : List Value).toArray } := by rw [← eS]
  generalize eH : upd Hb sb.heap.objs.size (.lst []) = Hc at Ic fc w0
  have stc : IsRangeIter sc.heap it 0 (n : Int) 1 := by rw [hS]; exact Heap.get?_push_of_some _ stb
  have B0 := block_start Ic ok hN (fp := [it]) fun b hb => by
    have eb : b = it := by simpa using hb
    subst eb
    exact ⟨fc, Heap.lt_size stc⟩
  have gB := hg sc Hc sc.heap.objs.size (cellsFrom (sc.heap.objs.size + 1) scope.names (cloFrom X.env.cells scope.names [])) [it]
  have tB := ht sc Hc sc.heap.objs.size (cellsFrom (sc.heap.objs.size + 1) scope.names (cloFrom X.env.cells scope.names [])) [it]
  have eB := he sc Hc sc.heap.objs.size (cellsFrom (sc.heap.objs.size + 1) scope.names (cloFrom X.env.cells scope.names [])) [it]
  show codeAny _ _ (.compStart _ 0 (.ref it) (.ref sb.heap.objs.size) (compEnvC scope (cellsFrom (sc.heap.objs.size + 1) scope.names (cloFrom X.env.cells scope.names [])) sc.heap.objs.size X.env)) (compPost (model X.prog X.w) X.A X.xe none _ (.ref sb.heap.objs.size) sc.heap.objs.size) { sc with heap := pushCells (sc.heap.push { cls := .type "dict", data := .dict #[] }) scope.names }
  generalize eE : compEnvC scope (cellsFrom (sc.heap.objs.size + 1) scope.names (cloFrom X.env.cells scope.names [])) sc.heap.objs.size X.env = ce at B0 gB tB eB ⊢
  have loc : ce.locals = sc.heap.objs.size := by subst eE; rfl
  generalize eT : ({ sc with heap := pushCells (sc.heap.push { cls := .type "dict", data := .dict #[] }) scope.names } : Shared) = sd at B0 ⊢
  have std : IsRangeIter sd.heap it ((0 : Nat) : Int) ((n : Int) - ((0 : Nat) : Int)) 1 := by
    have z : IsRangeIter sd.heap it 0 (n : Int) 1 := by rw [← eT]; exact pushCells_keeps _ _ _ _ (Heap.get?_push_of_some _ stc)
    simpa using z
  -- the block's context is hot, too
  have hB : HotX (X.blk sc Hc scope ce [it]) := by
    obtain ⟨x1, cls, d, hh, oe, vs, e1, e2⟩ := hx
    exact ⟨x1, cls, d, hh, oe, vs, Ic.base.frzs x1 _ _ e1, e2⟩
  have fOf : ∀ {σ' : L2.St} {H' : Hp} {s' : Shared}, Inv (X.blk sc Hc scope ce [it]) [] σ' H' s' → H' it = none → FpOk (X.blk sc Hc scope ce [it]) [] H' it := fun {σ' H' s'} J z =>
    have mem : it ∈ (X.blk sc Hc scope ce [it]).ex := List.mem_cons_self
    ⟨z, (J.ok.exf it mem).1, J.ok.exfs it mem, .inl mem, fun x c e => (J.ok.exf it mem).2 x c e, fun p hp => absurd (show p ∈ ([] : List (Addr × Obj)) ++ [] from hp) (by simp)⟩
  have all : codeAny (model X.prog X.w) X.A (.compLoop (.ListComp elt [⟨tg, .Call (.Name "range" p) [a] [] ipos, ifs, 0⟩] scope pos) 0 (.ref it) (.ref sb.heap.objs.size) ce) (compPost (model X.prog X.w) X.A X.xe none (EP X pins σ Q) (.ref sb.heap.objs.size) sc.heap.objs.size) sd := by
    refine compLoop_any (fun m s' => ∃ (i : Nat) (H' : Hp), Inv (X.blk sc Hc scope ce [it]) [] (wipe σ (own.map (·.2))) H' s' ∧ IsRangeIter s'.heap it (i : Int) ((n : Int) - (i : Nat)) 1 ∧ H' it = none ∧ W i m H') ?_ m0 ⟨0, Hc, B0, std, fc.1, w0⟩
    rintro m se ⟨i, He, Ie, ste, ne, we⟩
    rcases turn i m He we with ⟨stop, fin⟩ | ⟨go, Nx, dec, step⟩
    · refine thnF (rg_stop (Y := X.blk sc Hc scope ce [it]) (E := fun _ _ => False) (R := fun r s' => r = none ∧ Inv (X.blk sc Hc scope ce [it]) [] (wipe σ (own.map (·.2))) He s') hB Ie ste (fOf Ie ne) stop fun s' J => ⟨rfl, J⟩) fun r sf ⟨er, If⟩ => ?_
      subst er
      have Ig : Inv X pins σ He sf := Ic.call' (ch := [it]) If.os If.base If.hok If.bare fun b hb => by
        have eb : b = it := by simpa using hb
        subst eb
        exact ⟨fc.2.2.2.1, fc.2.1, fc.2.2.2.2.1, fc.2.2.2.2.2⟩
      have nC : He sc.heap.objs.size = none := by
        have z : He ce.locals = none := If.free
        rwa [loc] at z
      obtain ⟨mm, hns, _⟩ := If.loc
      have hns : sf.heap.Ns ce.locals mm := hns
      rw [loc] at hns
      obtain ⟨f0, f1, f2, f3, f4, f5⟩ := Ic.fpOk (Nat.le_refl _) nC
      exact ⟨mm, hns, fun h'' ext => ⟨.ref sb.heap.objs.size, He, Ig.turned (t' := sf.toks) (fun b o nb e => (ext.2 b nb).trans e) f0 f1 f3 f4 f5, rfl, fin⟩⟩
    · refine thnF (rg_next (Y := X.blk sc Hc scope ce [it]) (E := fun _ _ => False) (R := fun r s' => ∃ t, r = some (.int (i : Nat) t) ∧ Inv (X.blk sc Hc scope ce [it]) [] (wipe σ (own.map (·.2))) He s' ∧ IsRangeIter s'.heap it ((i + 1 : Nat) : Int) ((n : Int) - ((i + 1 : Nat) : Int)) 1) Ie ste (fOf Ie ne) go fun t s' J k => ⟨t, rfl, J, k⟩) fun r sf ⟨t, er, If, stf⟩ => ?_
      subst er
      refine go_of (n := "range_iterator") stf rfl rfl (by decide) ?_
      have Ip := If.pinned (fp := [it]) (fun b hb => by
        have eb : b = it := by simpa using hb
        subst eb
        exact fOf If ne) fun b hb => by
        have eb : b = it := by simpa using hb
        subst eb
        exact ⟨_, stf, fun v z => by cases z⟩
      refine thnF (gB.run _ sf _ He (.int (i : Nat)) _ _ Ip ⟨t, rfl⟩ (step (.int (i : Nat)) He ⟨rfl, by show V.int (i : Nat) = V.int (0 + (i : Nat)); rw [Int.zero_add]⟩)) fun _ sg ⟨σg, Hg, Ig, wg, qg⟩ => ?_
      refine thnF (tB.run _ sg σg Hg _ Ig qg) fun b sh ⟨Hh, Ih, qh⟩ => ?_
      have again : ∀ {s' : Shared} {H' : Hp}, Inv (X.blk sc Hc scope ce [it]) ([] ++ pinsAt [it] sf.heap) σg H' s' → Nx H' → ∃ m', m' < m ∧ ∃ (i : Nat) (H' : Hp), Inv (X.blk sc Hc scope ce [it]) [] (wipe σ (own.map (·.2))) H' s' ∧ IsRangeIter s'.heap it (i : Int) ((n : Int) - (i : Nat)) 1 ∧ H' it = none ∧ W i m' H' := fun {s' H'} J nx => by
        obtain ⟨m', lt, w'⟩ := dec H' nx
        have kept := J.pin (it, _) (List.mem_append_right _ (List.mem_append_right _ (mem_pinsAt (fp := [it]) List.mem_cons_self stf)))
        refine ⟨m', lt, i + 1, H', (J.unpinned (pins := [])).weak (by rw [← wg, wipe_length]) (fun j v e => ?_), kept.1, kept.2.1, w'⟩
        rw [← wg] at e
        exact (wipe_some e).1
      cases b with
      | false =>
        simp only [Bool.false_eq_true, if_false] at qh ⊢
        exact again Ih qh
      | true =>
        simp only [if_true] at qh ⊢
        refine thnF (eB.run _ sh σg Hh _ Ih qh) fun z sj ⟨yv, Hj, Ij, rj, acc, atj, szj, nx⟩ => ?_
        exact app_ok (X := X.blk sc Hc scope ce [it]) Ij atj szj rj fun sk Ik => again Ik nx
  exact codeAny_compStart_list all (wpAny_pyIter_rangeiter std all)⟩
end
/-! over data -/
section
theorem rng1_reads {X : Cx} {C : Addr} {W : WX} {ms : M (List D)} {σ : L2.St} {H : Hp} {R : It → Hp → Prop} (h : tI (gx X C) W (bnd ms itR1) σ H R) : iRng1 (tDs (gx X C) W ms) σ H R :=
  (lift1 (Ra := RDs (gx X C)) h).imp fun xs H1 ⟨B, F, env, ds, q, r⟩ => by
    cases ds with
    | nil => exact (Pt.no q).elim
    | cons d ds => cases ds with
      | nil => cases d with
        | int j =>
          obtain ⟨v, r', e0, rv, rn⟩ := r
          cases (show _ = _ from rn)
          cases (show _ = _ from rv)
          obtain ⟨⟨j1, j2⟩, q⟩ := Pt.asked q
          have z := Pt.pure (c := rangeL 0 j) q (b := Itr 0 (j - 0).toNat) ok_rng
          rw [Int.sub_zero] at z
          exact ⟨j, e0, j1, j2, z⟩
        | _ => exact (Pt.no q).elim
      | cons _ _ => cases d <;> exact (Pt.no q).elim
variable {X : Cx} {C : Addr} {W : WX} {tg elt a : Expr} {ifs : List Expr} {is : List Nat} {scope : Scope} {own : List (Str × Nat)} {p pos ipos : Pos} {ma : M D} {mt : M Bool} {md : M D}
theorem o_lcH {k : D → M Unit} (hx : HotX X) (hN : X.N.Nodup) (hg0 : Gl X "range") (hm0 : X.mg "range" = none) (ha : PE X a (tD (gx X C) W ma)) (ok : BlkOk X.N X.env.scope scope own) (hsub : ∀ i ∈ is, i ∈ own.map (·.2)) (nox : ∀ d env Q E, k d env Q E → k d env Q (fun _ _ => False))
    (hg : ∀ (s : Shared) (H : Hp) (c : Addr) (cl : List (Str × Addr)) (fp : List Addr), PG (X.blk s H scope (compEnvC scope cl c X.env) fp) tg (tTo (gx X C) is k)) (ht : ∀ (s : Shared) (H : Hp) (c : Addr) (cl : List (Str × Addr)) (fp : List Addr), PTs (X.blk s H scope (compEnvC scope cl c X.env) fp) ifs (tBl (gx X C) W0 mt))
    (he : ∀ (s : Shared) (H : Hp) (c : Addr) (cl : List (Str × Addr)) (fp : List Addr), PE (X.blk s H scope (compEnvC scope cl c X.env) fp) elt (tD (gx X C) W0 md)) (na : starEach [a] X.env = [(false, eval a X.env)] := by rfl) (na2 : starEach [a] X.env = (false, eval a X.env) :: starEach [] X.env := by rfl) (nf : ∀ x, foldedSetIterable (.Call (.Name "range" p) [a] [] ipos) X.env x = pure x := by intro _; rfl) :
    PE X (.ListComp elt [⟨tg, .Call (.Name "range" p) [a] [] ipos, ifs, 0⟩] scope pos) (tO (gx X C) W (compM (bnd (consM ma (ret [])) itR1) k (own.map (·.2)) mt md)) :=
  peImp (pe_lcH hx hN hg0 hm0 (a_cons ha a_nil na2) ok hg ht he na nf) fun σ H Q h => rng1_reads (comp_reads hsub nox h)
end
end DL

set_option Elab.async false
set_option linter.all false
set_option maxRecDepth 100000
set_option maxHeartbeats 2000000
/-! Lists joined to a new own one, counted; repr of whole numbers. -/
namespace DL
open PySem PySem.Spec PyProof.Rows L2
variable [Tbs]
def laddO (a b : D) : M O := match a, b with
  | .lst x, .lst y => ask (x.length + y.length ≤ sizeLine) (ret (.lst (x ++ y)))
  | _, _ => fail
def cntL (ds : List D) (b : D) : M D := ask (flatD b = true ∧ ds.all flatD = true) (ret (.int (ds.countP fun d => eqv d b : Nat)))
def ocntM (i : Nat) (mb : M D) : M D := bnd (olist i) fun _ => bnd mb fun d => bnd (olist i) fun ds => cntL ds d
def rCntF (K : PySem.W.Frag) : V → List V → Hp → VK → Prop := fun x xs H Q => ∃ (p : Addr) (vs : List V) (y : V), x = .ref p ∧ xs = [y] ∧ SqL K H p vs ∧ flatV y = true ∧ vs.all flatV = true ∧ Q (.int (vs.countP fun z => eqV z y : Nat)) H
theorem cnt_eqU {y : V} (f : flatV y = true) : ∀ {vs : List V} {us : List Value}, Vals vs us → vs.all flatV = true → us.countP (eqU y) = vs.countP fun z => eqV z y
  | _, _, .nil, _ => rfl
  | v :: vs, u :: us, .cons r t, fl => by
    rw [List.all_cons, Bool.and_eq_true] at fl
    have e : eqU y u = eqV v y := eqU_of r fl.1
    rw [List.countP_cons, List.countP_cons, cnt_eqU f t fl.2, e]
section
variable {X : Cx} {C : Addr} {W : WX} {a b e : Expr} {es : List Expr} {ma mb : M D} {ms : M (List D)} {apos cpos pos p : Pos} {i : Nat}
theorem o_ladd (ha : PE X a (tD (gx X C) W ma)) (hb : PE X b (tD (gx X C) W mb)) : PE X (.BinOp a .Add b pos) (tO (gx X C) W (bnd ma fun x => bnd mb fun y => laddO x y)) :=
  peImp (pe_op op_cat ha hb) fun σ H Q h => (lift2 h).imp fun x H1 h1 => h1.imp fun y H2 ⟨B, F, env, d, e, pt, r1, r2⟩ => by
    cases d with
    | lst ds =>
      cases e with
      | lst es =>
        obtain ⟨l, pt⟩ := Pt.asked pt
        obtain ⟨q1, vs1, e1, _, g1, rv1⟩ := r1
        obtain ⟨q2, vs2, e2, _, g2, rv2⟩ := r2
        subst e1 e2
        exact ⟨q1, q2, vs1, vs2, rfl, rfl, g1, g2, by rw [← rv1.length, ← rv2.length]; exact l, fun p hp => Pt.olst pt (rv1.append rv2) hp⟩
      | _ => exact (Pt.no pt).elim
    | _ => cases e <;> exact (Pt.no pt).elim
theorem mt_lcountF : MtR X "list.count" (rCntF X.K) := by
  intro pins s σ H x xs v us Q I rx rxs h
  obtain ⟨q, vs, y, ex, exs, sq, fy, fvs, hq⟩ := h
  subst ex exs
  cases rx
  obtain ⟨u, eu, ru⟩ := rxs.one
  subst eu
  obtain ⟨its, rv, ⟨⟨cl, dd, da, sl⟩, n, look, ec, hdn, ed⟩, _⟩ := I.list sq
  simp only at ec ed
  subst ec ed
  refine call_meets PySem.F.slot_list_count ⟨_, look, rfl⟩ PySem.F.entry_list_count (PySem.F.args_list_count_2 _ _) (SeqAt.list_countAt q its.toArray n dd sl u (eqU y))
    ⟨look, fun z hz => mem_eqAt ru fy rv fvs z (by simpa using hz), ⟨.int (vs.countP fun z => eqV z y : Nat), H, I.tok _, ⟨s.toks, ?_⟩, hq⟩⟩
  show Value.int ((its.toArray.toList.countP (eqU y) : Nat) : Int) s.toks = _
  rw [cnt_eqU fy rv fvs]
theorem cnt_rp {G : Gx} {F : Addr → Prop} {H : Hp} {yd : D} {y : V} (ry : Rp G F H yd y) (fy : flatD yd = true) : ∀ {ds : List D} {vs : List V}, RpL G F H ds vs → ds.all flatD = true → (vs.countP fun z => eqV z y) = ds.countP fun d => eqv d yd
  | [], _, rv, _ => by cases (show _ = _ from rv); rfl
  | d :: ds, _, ⟨v, r, e, r1, r2⟩, fl => by
    subst e
    rw [List.all_cons, Bool.and_eq_true] at fl
    rw [List.countP_cons, List.countP_cons, eqv_flat r1 ry fl.1 fy, cnt_rp ry fy r2 fl.2]
theorem e_ocnt (ha : PE X a (tVar i)) (hb : PE X b (tD (gx X C) W mb)) (hbase : attributeBase a "count" X.env (eval a X.env) = eval a X.env := by rfl)
    (hfew : ((backTo cpos (starEach [b] X.env)).all (fun x => !x.1) && (backToKw cpos (keywordEach [] X.env)).all (fun x => x.1.isSome)
      && decide ([b].length + ([] : List Keyword).length + (if ([] : List Keyword).isEmpty then 0 else 1) < 30)) = true := by rfl)
    (hline : (apos.endLine == cpos.line) = true := by rfl) (hs : starEach [b] X.env = (false, eval b X.env) :: starEach [] X.env := by rfl) (hpl : (backTo cpos (starEach [] X.env)).any (·.1) = false := by rfl) :
    PE X (.Call (.Attribute a "count" apos) [b] [] cpos) (tD (gx X C) W (ocntM i mb)) :=
  peImp (pe_bm F.plainAttrs_list PySem.F.slot_list_count F.type_list_count mt_lcountF ha (pa_cons hb pa_nil hs) hbase hfew hline hs hpl) fun σ H Q ⟨B, F, env, h⟩ => by
    obtain ⟨q, _, vs0, e1, hv0, _, _, h⟩ := Pt.olist h
    refine ⟨_, e1, .inl ⟨rfl, vs0, SqL.of hv0⟩, (h.bind (Ra := RD (gx X C)) (as := []) (xs := []) rfl).imp fun y H2 ⟨F2, env2, yd, p2, _, ry⟩ => ?_⟩
    obtain ⟨q', ds, vs, e1', hv, rv, own, p3⟩ := p2.olist
    rw [e1] at e1'; cases e1'
    obtain ⟨⟨fy, fds⟩, p3⟩ := p3.asked
    refine ⟨q, vs, y, rfl, rfl, SqL.of hv, flat_of ry fy, flats_of rv fds, p3.pure (b := .int _) ?_⟩
    show V.int _ = V.int _
    congr 2
    exact cnt_rp ry fy rv fds
/-- repr of a tuple, a list, a whole number -/
def reprA (d : D) : M D := match d with
  | .int i => ask (i.natAbs.log2 < 1920) (ret (.str (toString i : String)))
  | d => reprD d
theorem fits_reprA {G : Gx} : FitsC G W (fun xs H Q => rShow G.K xs H Q ∨ ∃ i, xs = [.int i] ∧ i.natAbs.log2 < 1920 ∧ Q (.str (toString i : String)) H) (un1 reprA) := fits1 fun {σ H Q B F env x d} p r => by
  by_cases z : ∃ i, d = .int i
  · obtain ⟨i, e⟩ := z
    subst e
    obtain ⟨hz, p⟩ := Pt.asked p
    cases (show _ = _ from r)
    exact .inr ⟨i, rfl, hz, p.pure (b := .str _) rfl⟩
  · have e : reprA d = reprD d := by
      cases d with
      | int i => exact (z ⟨i, rfl⟩).elim
      | _ => rfl
    rw [e] at p
    refine .inl ?_
    obtain ⟨⟨c1, c2, c3⟩, p⟩ := Pt.asked p
    have dp := Rp.dp r c2
    cases d with
    | tup ds => obtain ⟨a, vs, e, h1, h2⟩ := r; subst e; exact ⟨a, _, rfl, dp, c3, p.pure (b := .str _) rfl⟩
    | lst ds => obtain ⟨a, vs, e, h1, h2⟩ := r; subst e; exact ⟨a, _, rfl, dp, c3, p.pure (b := .str _) rfl⟩
    | _ => cases c1
theorem call_reprA (hG : X.A.guards = some []) (hu : X.A.units + 100 < cLine) : CallR X (.builtin "repr") (fun xs H Q => rShow X.K xs H Q ∨ ∃ i, xs = [.int i] ∧ i.natAbs.log2 < 1920 ∧ Q (.str (toString i : String)) H) := (call_show hG hu).or SkE.call_repr_int
theorem RoomX.r100 {k : Nat} {A : Around} (r : RoomX k A) : A.units + 100 < cLine := by have := r.un; omega
theorem RoomX.r64 {k : Nat} {A : Around} (r : RoomX k A) : A.units + 64 < cLine := by have := r.un; omega
end
end DL

set_option Elab.async false
set_option linter.all false
set_option maxRecDepth 100000
set_option maxHeartbeats 2000000
/-! The facts of the written part about exceptions, each by one evaluation. -/
namespace DL
open PySem PySem.Spec PyProof.Rows L2
variable [Tbs]
/-- what is asked of a class that is raised -/
def raOk (K : PySem.W.Frag) (b : Bt) (c base f : Str) : Bool :=
  PySem.W.excInitIn K (exA K c) b.mro b.newId && PySem.W.excOver K (exA K c) b.mro && PySem.W.hasDictIn K (exA K c) && decide (PySem.W.findIn K (.ref (exA K c)) "__setattr__" = some (some (.builtin "object.__setattr__"))) &&
  decide (PySem.W.subIn K (.ref (exA K c)) (.type "BaseException") = some true) && decide (PySem.W.typeIn K (.ref (exA K c)) = some (.type "type")) && PySem.W.keepIn K (.ref (exA K c)) && decide (PySem.W.takerIn K (exA K c) f = some none) &&
  decide (PySem.W.nsIn K mainGlobals base = some (some (.ref (exA K base)))) && PySem.W.readsIn K (exA K base) (.type "type") && decide (PySem.W.specialIn K (.ref (exA K base)) "__getattribute__" = some (some (.builtin "type.__getattribute__")))
structure RaK (K : PySem.W.Frag) (mg : Str → Option Value) (b : Bt) (c base f : Str) : Prop where
  ex : ExK K b (exA K c)
  tk : PySem.W.takerIn K (exA K c) f = some none
  gb : mg base = some (.ref (exA K base))
  ba : BaK K b (exA K base)
theorem raK_of {K : PySem.W.Frag} {h : Heap} {mg : Str → Option Value} {b : Bt} {c base f : Str} (kin : K.In h) (G : h.Ns mainGlobals mg) (e : raOk K b c base f = true) (ba : PySem.W.findCls K (.ref (exA K base)) (.type "type") "__init__" = some (.val (.builtin b.initId))) : RaK K mg b c base f := by
  simp only [raOk, Bool.and_eq_true, decide_eq_true_eq] at e
  obtain ⟨⟨⟨⟨⟨⟨⟨⟨⟨⟨a1, a2⟩, a3⟩, a4⟩, a5⟩, a6⟩, a7⟩, a8⟩, a9⟩, a10⟩, a11⟩ := e
  exact ⟨⟨a1, a2, a3, a4, a5, a6, a7⟩, a8, PySem.W.mg_of kin G a9, ⟨a10, a11⟩, ba⟩
theorem exA_of {K : PySem.W.Frag} {c : Str} {a : Addr} (h : PySem.W.nsIn K mainGlobals c = some (some (.ref a))) : exA K c = a := by unfold exA; rw [h]
end DL

set_option Elab.async false
set_option linter.all false
set_option maxRecDepth 100000
set_option maxHeartbeats 2000000
/-! The empty dict as a datum; repr of data of any kind. -/
namespace DL
open PySem PySem.Spec PyProof.Rows L2
variable [Tbs]
section
variable {G : Gx} {W : WX} {B F : Addr → Prop} {σ : L2.St} {H : Hp} {env : List Slot}
theorem Pt.emp {p : Addr} {Q : V → Hp → Prop} (h : Pt G W (RD G) σ H Q (ret .emp) B F env) (hp : H p = none) : Q (.ref p) (upd H p (.dK [])) := by
  obtain ⟨Qd, Ed, rel, hm, hq, he⟩ := h
  exact hq _ env _ (fun a => F a ∨ a = p) _ hm (stp_newF hp (rel.notB hp)) (rel.newF hp) ⟨p, rfl, .inr rfl, upd_same⟩
end
mutual
def pyE : D → PyData
  | .non => .none | .bl b => .bool b | .int i => .int i | .str s => .str s
  | .tup xs => .tuple (pyEL xs) | .lst xs => .list (pyEL xs)
  | .emp => .dict []
  | _ => .none
def pyEL : List D → List PyData
  | [] => []
  | x :: xs => pyE x :: pyEL xs
end
mutual
def okD : D → Bool
  | .non => true | .bl _ => true | .int _ => true | .str _ => true
  | .tup xs => okDL xs
  | .emp => true
  | _ => false
def okDL : List D → Bool
  | [] => true
  | x :: xs => okD x && okDL xs
end
mutual
theorem pyE_eq : ∀ d : D, pyOk d = true → pyE d = py d
  | .non, _ => rfl
  | .bl _, _ => rfl
  | .int _, _ => rfl
  | .str _, _ => rfl
  | .byt _, e => by cases e
  | .hall _ _, e => by cases e
  | .scr _, e => by cases e
  | .emp, e => by cases e
  | .exn _ _ _, e => by cases e
  | .pr _, e => by cases e
  | .tup ds, h => by
    show PyData.tuple (pyEL ds) = .tuple (pyL ds)
    rw [pyEL_eq ds (by simpa [pyOk] using h)]
  | .lst ds, h => by
    show PyData.list (pyEL ds) = .list (pyL ds)
    rw [pyEL_eq ds (by simpa [pyOk] using h)]
theorem pyEL_eq : ∀ ds : List D, pyOkL ds = true → pyEL ds = pyL ds
  | [], _ => rfl
  | d :: ds, h => by
    have q' : pyOk d = true ∧ pyOkL ds = true := by simpa [pyOkL] using h
    show pyE d :: pyEL ds = py d :: pyL ds
    rw [pyE_eq d q'.1, pyEL_eq ds q'.2]
end
section
variable {X : Cx} {pins : List (Addr × Obj)} {σ : L2.St} {H : Hp} {s : Shared} {G : Gx} {F : Addr → Prop}
mutual
theorem Rp.readsD (I : Inv X pins σ H s) : ∀ (d : D) (v : V) (u : Value), Rp G F H d v → okD d = true → RelV v u → ∃ as, Reads s.heap u (pyE d) as ∧ sysModules ∉ as
  | .non, _, _, h, _, r => by cases (show _ = _ from h); cases r; exact ⟨_, Reads.none, List.not_mem_nil⟩
  | .bl b, _, _, h, _, r => by cases (show _ = _ from h); cases r; exact ⟨_, Reads.bool b, List.not_mem_nil⟩
  | .int i, _, _, h, _, r => by cases (show _ = _ from h); obtain ⟨t, rfl⟩ := r; exact ⟨_, Reads.int i t, List.not_mem_nil⟩
  | .str x, _, _, h, _, r => by cases (show _ = _ from h); obtain ⟨t, rfl⟩ := r; exact ⟨_, Reads.str x t, List.not_mem_nil⟩
  | .byt _, _, _, _, e, _ => by cases e
  | .hall _ _, _, _, _, e, _ => by cases e
  | .scr _, _, _, _, e, _ => by cases e
  | .exn _ _ _, _, _, _, e, _ => by cases e
  | .pr _, _, _, _, e, _ => by cases e
  | .lst _, _, _, _, e, _ => by cases e
  | .emp, _, _, ⟨a, e, hF, h1⟩, _, r => by
    subst e
    cases r
    obtain ⟨_, sm, vs, kv, o, es, n, g1, g2, g3, g4, g5, g6⟩ := dk_of I.hok h1
    cases kv
    have e0 : es.toList = [] := by
      generalize es.toList = l at g5
      cases g5
      rfl
    have rd : Reads s.heap (.ref a) (.dict []) (a :: [] ++ []) := Reads.dict g1 g2.1 g3 (by rw [e0]; exact .nil) (by rw [e0]; exact .nil)
    refine ⟨_, rd, ?_⟩
    intro m
    have z := List.mem_singleton.mp m
    subst z
    exact absurd sm (by decide)
  | .tup ds, _, _, ⟨a, vs, e, h1, h2⟩, q, r => by
    subst e
    cases r
    have hs : SqT X.K H a vs := .inl h1.rd
    obtain ⟨its, rv, ⟨o, ho, hc, n, hd⟩, _⟩ := I.tuple hs
    obtain ⟨as, hr, hn⟩ := RpL.readsD I ds vs its h2 (by simpa [okD] using q) rv
    exact ⟨_, Reads.tuple ho hc hd hr, hn⟩
theorem RpL.readsD (I : Inv X pins σ H s) : ∀ (ds : List D) (vs : List V) (us : List Value), RpL G F H ds vs → okDL ds = true → Vals vs us → ∃ as, ReadsAll s.heap us (pyEL ds) as ∧ sysModules ∉ as
  | [], _, _, h, _, r => by cases (show _ = _ from h); cases r; exact ⟨_, ReadsAll.nil, List.not_mem_nil⟩
  | d :: ds, _, _, ⟨v, vs, e, h1, h2⟩, q, r => by
    subst e
    have q' : okD d = true ∧ okDL ds = true := by simpa [okDL] using q
    cases r with
    | cons r1 r2 =>
      obtain ⟨as, q1, n1⟩ := Rp.readsD I d v _ h1 q'.1 r1
      obtain ⟨bs, q2, n2⟩ := RpL.readsD I ds vs _ h2 q'.2 r2
      exact ⟨_, ReadsAll.cons q1 q2, fun m => (List.mem_append.mp m).elim n1 n2⟩
end
end
mutual
theorem nd_py : ∀ d : D, pyOk d = true → (py d).hasDict = false
  | .non, _ => rfl
  | .bl _, _ => rfl
  | .int _, _ => rfl
  | .str _, _ => rfl
  | .byt _, e => by cases e
  | .hall _ _, e => by cases e
  | .scr _, e => by cases e
  | .emp, e => by cases e
  | .exn _ _ _, e => by cases e
  | .pr _, e => by cases e
  | .tup ds, h => ndL_py ds (by simpa [pyOk] using h)
  | .lst ds, h => ndL_py ds (by simpa [pyOk] using h)
theorem ndL_py : ∀ ds : List D, pyOkL ds = true → PyData.hasDictAll (pyL ds) = false
  | [], _ => rfl
  | d :: ds, h => by
    have q' : pyOk d = true ∧ pyOkL ds = true := by simpa [pyOkL] using h
    show ((py d).hasDict || PyData.hasDictAll (pyL ds)) = false
    rw [nd_py d q'.1, ndL_py ds q'.2]; rfl
end
/-- a tuple whose parts are fit, each for itself -/
def okT : D → Bool
  | .tup ds => ds.all fun e => pyOk e || okD e
  | _ => false
section
variable {X : Cx} {C : Addr} {pins : List (Addr × Obj)} {σ : L2.St} {H : Hp} {s : Shared} {F : Addr → Prop}
theorem el_reads (I : Inv X pins σ H s) {d : D} {v : V} {u : Value} (r : Rp (gx X C) F H d v) (h : pyOk d = true ∨ okD d = true) (ru : RelV v u) : ∃ as, Reads s.heap u (pyE d) as ∧ ((pyE d).hasDict = true → sysModules ∉ as) := by
  rcases h with h | h
  · obtain ⟨as, q⟩ := Dp.reads I (py d) v u (Rp.dp r h) ru
    rw [pyE_eq d h]
    exact ⟨as, q, fun z => by rw [nd_py d h] at z; cases z⟩
  · obtain ⟨as, q, n⟩ := Rp.readsD I d v u r h ru
    exact ⟨as, q, fun _ => n⟩
theorem els_repr (I : Inv X pins σ H s) : ∀ (ds : List D) (vs : List V) (us : List Value), RpL (gx X C) F H ds vs → (∀ d ∈ ds, pyOk d = true ∨ okD d = true) → Vals vs us → PyData.showableAll (pyEL ds) = true → (∀ t ∈ PyData.shownAll (pyEL ds), t.length ≤ sizeLine) →
    ∃ as bs, ReadsAll s.heap us (pyEL ds) as ∧ ReadAtMost s.heap (PyData.depthAll (pyEL ds)) bs ∧ ReprAllK X.prog X.w bs s.heap (PyData.depthAll (pyEL ds)) us (PyData.shownAll (pyEL ds))
  | [], _, _, h, _, r, _, _ => by cases (show _ = _ from h); cases r; exact ⟨[], [], .nil, (fun _ h => nomatch h), by simp only [pyEL, PyData.shownAll]; exact .nil⟩
  | d :: ds, _, _, ⟨v, vs, e, h1, h2⟩, ok, r, sh, z => by
    subst e
    cases r with
    | cons r1 r2 =>
      have sh' : (pyE d).showable = true ∧ PyData.showableAll (pyEL ds) = true := by simpa [pyEL, PyData.showableAll] using sh
      obtain ⟨a1, q1, n1⟩ := el_reads (C := C) I h1 (ok d List.mem_cons_self) r1
      obtain ⟨b1, hb1, k1⟩ := ReprK.of_reads (prog := X.prog) (w := X.w) q1 sh'.1 n1 (z _ (by simp only [pyEL, PyData.shownAll]; exact List.mem_cons_self ..))
      obtain ⟨a2, b2, q2, hb2, k2⟩ := els_repr I ds vs _ h2 (fun e he => ok e (List.mem_cons_of_mem _ he)) r2 sh'.2 (fun t ht => z t (by simp only [pyEL, PyData.shownAll]; exact List.mem_cons_of_mem _ ht))
      refine ⟨_, b1 ++ b2, .cons q1 q2, fun b hm => ?_, ?_⟩
      · simp only [pyEL, PyData.depthAll]
        exact (List.mem_append.mp hm).elim (fun hm => let ⟨d', as', r', hd'⟩ := hb1 b hm; ⟨d', as', r', Nat.le_trans hd' (Nat.le_max_left _ _)⟩) fun hm => let ⟨d', as', r', hd'⟩ := hb2 b hm; ⟨d', as', r', Nat.le_trans hd' (Nat.le_max_right _ _)⟩
      · simp only [pyEL, PyData.depthAll, PyData.shownAll]
        exact .cons ((k1.more (as' := b1 ++ b2) fun b hb => List.mem_append_left _ hb).level_le (Nat.le_max_left _ _)) (k2.more_le (fun b hb => List.mem_append_right _ hb) (Nat.le_max_right _ _))
end
/-- kept by data of a kind that has an address -/
def compE : D → Bool
  | .tup _ => true
  | .lst _ => true
  | .emp => true
  | _ => false
def shOkE (d : PyData) : Bool := d.showable && decide (d.depth ≤ 64) && d.leavesShort 40 && decide (d.bulk ≤ 2 ^ 16)
theorem shown_fitsE {d : PyData} (h : d.leavesShort 40 = true) (b : d.bulk ≤ 2 ^ 16) : d.shown.length ≤ sizeLine := by
  have := PyData.shown_le_bulk 40 (by decide) d h
  rw [sizeLine_eq]
  omega
/-- repr of data of any kind -/
def reprE (d : D) : M D := match d with
  | .non => ret (.str "None")
  | .bl b => ret (.str (if b then "True" else "False"))
  | .int i => ask (i.natAbs.log2 < 1920) (ret (.str (toString i : String)))
  | .str x => ask ((reprText x).length ≤ sizeLine) (ret (.str (reprText x)))
  | d => ask (compE d = true ∧ ((pyOk d = true ∧ shOk (py d) = true) ∨ (okD d = true ∧ shOkE (pyE d) = true) ∨ (pyOk d = true ∧ (py d).hasDict = false ∧ shOkE (py d) = true) ∨ (okT d = true ∧ shOkE (pyE d) = true))) (ret (.str (pyE d).shown))
def rReprE (G : Gx) : List V → Hp → VK → Prop := fun xs H Q => (∃ x, xs = [.str x] ∧ (reprText x).length ≤ sizeLine ∧ Q (.str (reprText x)) H) ∨ (∃ i, xs = [.int i] ∧ i.natAbs.log2 < 1920 ∧ Q (.str (toString i : String)) H) ∨
  (xs = [.non] ∧ Q (.str "None") H) ∨ (∃ b, xs = [.bl b] ∧ Q (.str (if b then "True" else "False")) H) ∨ (∃ p d, xs = [.ref p] ∧ Dp G.K H (.ref p) d ∧ shOk d = true ∧ Q (.str d.shown) H) ∨
  (∃ p d, xs = [.ref p] ∧ Dp G.K H (.ref p) d ∧ d.hasDict = false ∧ shOkE d = true ∧ Q (.str d.shown) H) ∨
  ∃ F p d, xs = [.ref p] ∧ Rp G F H d (.ref p) ∧ (okD d = true ∨ okT d = true) ∧ shOkE (pyE d) = true ∧ Q (.str (pyE d).shown) H
section
variable {X : Cx} {C : Addr} {W : WX}
theorem call_reprE (hG : X.A.guards = some []) (hu : X.A.units + 100 < cLine) : CallR X (.builtin "repr") (rReprE (gx X C)) := by
  rintro pins s σ H xs us Q J r (⟨x, ex, hz, q⟩ | ⟨i, ex, hz, q⟩ | ⟨ex, q⟩ | ⟨b, ex, q⟩ | ⟨p, d, ex, dp, ok, q⟩ | ⟨p, d, ex, dp, nd, ok, q⟩ | ⟨F, p, d, ex, rp, o0, ok, q⟩)
  · subst ex
    obtain ⟨u, rfl, t, rfl⟩ := vals1 r
    exact PySem.P.repr_of_str ⟨.str _, H, J.tok _, ⟨_, rfl⟩, q⟩ hz
  · subst ex
    obtain ⟨u, rfl, t, rfl⟩ := vals1 r
    exact PySem.P.repr_of_int hz ⟨.str _, H, J.tok _, ⟨_, rfl⟩, q⟩
  · subst ex
    obtain ⟨u, rfl, e⟩ := vals1 r
    cases e
    exact PySem.P.repr_of_none ⟨.str _, H, J.tok _, ⟨_, rfl⟩, q⟩
  · subst ex
    obtain ⟨u, rfl, e⟩ := vals1 r
    cases e
    refine PySem.P.repr_of_bool ⟨.str _, H, J.tok _, ⟨s.toks, ?_⟩, q⟩
    cases b <;> rfl
  · exact call_show hG hu _ _ _ _ _ _ _ J r ⟨p, d, ex, dp, ok, q⟩
  · subst ex
    obtain ⟨u, eu, ru⟩ := vals1 r
    subst eu
    obtain ⟨as, rd⟩ := Dp.reads J d (.ref p) u dp ru
    cases ru
    simp only [shOkE, Bool.and_eq_true, decide_eq_true_eq] at ok
    obtain ⟨⟨⟨o1, o3⟩, o4⟩, o5⟩ := ok
    exact repr_of_reads' rd o1 (PyData.noDict_hsm nd) hG (by omega) (fun b o e => e) (fun h' u tk kp => ⟨.str _, H, J.kept kp, ⟨u, rfl⟩, q⟩) (shown_fitsE o4 o5)
  · subst ex
    obtain ⟨u, eu, ru⟩ := vals1 r
    subst eu
    simp only [shOkE, Bool.and_eq_true, decide_eq_true_eq] at ok
    obtain ⟨⟨⟨o1, o3⟩, o4⟩, o5⟩ := ok
    have fit := shown_fitsE o4 o5
    rcases o0 with o0 | o0
    · obtain ⟨as, rd, sm⟩ := Rp.readsD J d (.ref p) u rp o0 ru
      cases ru
      exact repr_of_reads' rd o1 (fun _ => sm) hG (by omega) (fun b o e => e) (fun h' u tk kp => ⟨.str _, H, J.kept kp, ⟨u, rfl⟩, q⟩) fit
    · cases d with
      | tup ds =>
        cases ru
        obtain ⟨a, vs, e, h1, h2⟩ := rp
        cases e
        have hs : SqT X.K H p vs := .inl h1.rd
        obtain ⟨its, rv, ⟨o, ho, hc, n, hd⟩, _⟩ := J.tuple hs
        have fit' : (tupleText (PyData.shownAll (pyEL ds))).length ≤ sizeLine := by simpa only [pyE, PyData.shown] using fit
        obtain ⟨as, bs, rs, am, rk⟩ := els_repr (C := C) J ds vs its h2 (fun e he => by
          have := List.all_eq_true.mp (show (ds.all fun e => pyOk e || okD e) = true from o0) e he
          simpa using this) rv (by simpa [pyE, PyData.showable] using o1) (fun t ht => Nat.le_trans (tupleText_mem_le ht) fit')
        have dp : PyData.depthAll (pyEL ds) + 1 ≤ 64 := by simpa only [pyE, PyData.depth] using o3
        have out : p ∉ bs := not_mem_of_deeper (.tuple ho hc hd rs) (by simp only [PyData.depth]; omega) am
        refine call_repr_slot (by show X.A.units + 1 < _; omega) ⟨o, ho, hc⟩ PySem.F.slot_tuple_repr (call_tuple_reprK ho hc hd out rk hG (fun b _ => Clear.nil b) (by show X.A.units + 1 + _ < _; omega) (fun b o e => e) (fun h' u tk kp => ⟨_, _, rfl, .str _, H, J.kept kp, ⟨u, rfl⟩, ?_⟩) fit')
        exact q
      | _ => cases o0
theorem fits_reprE {G : Gx} : FitsC G W (rReprE G) (un1 reprE) := fits1 fun {σ H Q B F env x d} p r => by
  have big : ∀ ds, (d = .tup ds ∨ d = .lst ds ∨ d = .emp) → Pt G W (RD G) σ H Q (ask (compE d = true ∧ ((pyOk d = true ∧ shOk (py d) = true) ∨ (okD d = true ∧ shOkE (pyE d) = true) ∨ (pyOk d = true ∧ (py d).hasDict = false ∧ shOkE (py d) = true) ∨ (okT d = true ∧ shOkE (pyE d) = true))) (ret (.str (pyE d).shown))) B F env → rReprE G [x] H Q := by
    intro ds e p
    obtain ⟨⟨c1, c2⟩, p⟩ := Pt.asked p
    have ex : ∃ a, x = .ref a := by
      rcases e with e | e | e
      · subst e; obtain ⟨a, vs, e, _⟩ := r; exact ⟨a, e⟩
      · subst e; obtain ⟨a, vs, e, _⟩ := r; exact ⟨a, e⟩
      · subst e; obtain ⟨a, e, _⟩ := r; exact ⟨a, e⟩
    obtain ⟨a, ex⟩ := ex
    subst ex
    rcases c2 with ⟨c2, c3⟩ | ⟨c2, c3⟩ | ⟨c2, c4, c3⟩ | ⟨c2, c3⟩
    · exact .inr (.inr (.inr (.inr (.inl ⟨a, _, rfl, Rp.dp r c2, c3, by rw [← pyE_eq d c2]; exact p.pure (b := .str _) rfl⟩))))
    · exact .inr (.inr (.inr (.inr (.inr (.inr ⟨F, a, d, rfl, r, .inl c2, c3, p.pure (b := .str _) rfl⟩)))))
    · exact .inr (.inr (.inr (.inr (.inr (.inl ⟨a, _, rfl, Rp.dp r c2, c4, c3, by rw [← pyE_eq d c2]; exact p.pure (b := .str _) rfl⟩)))))
    · exact .inr (.inr (.inr (.inr (.inr (.inr ⟨F, a, d, rfl, r, .inr c2, c3, p.pure (b := .str _) rfl⟩)))))
  cases d with
  | non => cases (show _ = _ from r); exact .inr (.inr (.inl ⟨rfl, Pt.pure p (b := .str _) rfl⟩))
  | bl b => cases (show _ = _ from r); exact .inr (.inr (.inr (.inl ⟨b, rfl, Pt.pure p (b := .str _) rfl⟩)))
  | int i => cases (show _ = _ from r); obtain ⟨hz, p⟩ := Pt.asked p; exact .inr (.inl ⟨i, rfl, hz, p.pure (b := .str _) rfl⟩)
  | str y => cases (show _ = _ from r); obtain ⟨hz, p⟩ := Pt.asked p; exact .inl ⟨y, rfl, hz, p.pure (b := .str _) rfl⟩
  | tup ds => exact big ds (.inl rfl) p
  | lst ds => exact big ds (.inr (.inl rfl)) p
  | emp => exact big [] (.inr (.inr rfl)) p
  | _ => obtain ⟨⟨c1, _⟩, _⟩ := Pt.asked p; cases c1
theorem e_emp {pos : Pos} : PE X (.Dict [] [] pos) (tD (gx X C) W (ret .emp)) := peImp pe_dnewK fun σ H Q ⟨B, F, env, h⟩ p hp => Pt.emp h hp
end
end DL

set_option Elab.async false
set_option linter.all false
set_option maxRecDepth 100000
set_option maxHeartbeats 2000000
/-! A new own object handed to a def; texts cut, texts by f'..'; str(hall); a tuple whose first part is a def called in an except suite. -/
namespace DL
open PySem PySem.Spec PyProof.Rows L2
variable [Tbs]
section
variable {G : Gx} {W : WX} {B F : Addr → Prop} {σ : L2.St} {H : Hp} {env : List Slot}
/-! ### f(new own object) -/
def callF (df : DF) (o : O) : M Res := fun env Q E => ∀ a, df [.io a o] (fun v ss => ioAt 0 env.length (env ++ [.ow o]) ss fun e' => Q v (e'.take env.length)) (fun x ss => ioAt 0 env.length (env ++ [.ow o]) ss fun e' => E x (e'.take env.length))
theorem own_app {x : Option V} {s : Slot} {i : Nat} {a : Addr} (l : env.length = σ.length) (h : OwnAt (env ++ [s]) (σ ++ [x]) i a) : OwnAt env σ i a ∨ (i = env.length ∧ x = some (.ref a)) := by
  obtain ⟨⟨t, e, o⟩, z⟩ := h
  by_cases hi : i < env.length
  · rw [List.getElem?_append_left hi] at e
    rw [List.getElem?_append_left (by omega)] at z
    exact .inl ⟨⟨t, e, o⟩, z⟩
  · have := (List.getElem?_eq_some_iff.mp e).1
    rw [List.length_append, List.length_cons, List.length_nil] at this
    have ei : i = env.length := by omega
    subst ei
    rw [l] at z
    refine .inr ⟨rfl, ?_⟩
    simpa using z
theorem Rel.push (rel : Rel G B F σ env H) {a : Addr} {o : O} (hw : OwAt G F H a o) (nF : ¬ F a) (nB : ¬ B a) (no : ∀ i, ¬ OwnAt env σ i a) : Rel G B F (σ ++ [some (.ref a)]) (env ++ [.ow o]) H := by
  refine ⟨by rw [List.length_append, List.length_append, rel.len]; rfl, fun i s e => ?_, fun i j b h1 h2 => ?_, rel.hB, rel.hF, rel.tb⟩
  · by_cases hi : i < env.length
    · rw [List.getElem?_append_left hi] at e
      rw [List.getElem?_append_left (by rw [← rel.len]; exact hi)]
      exact rel.sl i s e
    · have := (List.getElem?_eq_some_iff.mp e).1
      rw [List.length_append, List.length_cons, List.length_nil] at this
      have ei : i = env.length := by omega
      subst ei
      simp at e
      subst e
      exact ⟨a, by rw [rel.len]; simp, nF, nB, hw⟩
  · rcases own_app rel.len h1 with h1 | ⟨e1, z1⟩ <;> rcases own_app rel.len h2 with h2 | ⟨e2, z2⟩
    · exact rel.ap i j b h1 h2
    · cases z2; exact absurd h1 (no i)
    · cases z1; exact absurd h2 (no j)
    · rw [e1, e2]
theorem own_take {x : Option V} {i : Nat} {a : Addr} (h : OwnAt (env.take σ.length) σ i a) : OwnAt env (σ ++ [x]) i a := by
  obtain ⟨⟨t, e, o⟩, z⟩ := h
  have hl := (List.getElem?_eq_some_iff.mp z).1
  rw [List.getElem?_take] at e
  rw [if_pos hl] at e
  exact ⟨⟨t, e, o⟩, by rw [List.getElem?_append_left hl]; exact z⟩
theorem Rel.popTake {x : Option V} (rel : Rel G B F (σ ++ [x]) env H) : Rel G B F σ (env.take σ.length) H := by
  have l := rel.len
  rw [List.length_append, List.length_cons, List.length_nil] at l
  refine ⟨by rw [List.length_take]; omega, fun i s e => ?_, fun i j b h1 h2 => rel.ap i j b (own_take h1) (own_take h2), rel.hB, rel.hF, rel.tb⟩
  have hi : i < σ.length := by have := (List.getElem?_eq_some_iff.mp e).1; rw [List.length_take] at this; omega
  rw [List.getElem?_take, if_pos hi] at e
  have := rel.sl i s e
  rwa [List.getElem?_append_left hi] at this
theorem RRs.popTake {x : Option V} {r : Res} {v : V} (h : RRs G B F env (σ ++ [x]) H r v) : RRs G B F (env.take σ.length) σ H r v := by
  cases r with
  | d d => exact h
  | o o =>
    obtain ⟨a, e, h1, h2, h3, h4⟩ := h
    exact ⟨a, e, h1, h2, h3, fun i w => h4 i (own_take w)⟩
theorem Pt.callF {Q : V → Hp → Prop} {f : DF} {o : O} {v : V} (h : Pt G W (RRs G) σ H Q (callF f o) B F env) (r : RO G B F env σ H o v) : spD G 1 f [v] H Q (WE W σ) := by
  obtain ⟨Qd, Ed, rel, hm, hq, he⟩ := h
  obtain ⟨a, rfl, nF, nB, hw, no⟩ := r
  have ho : OwnAt (env ++ [.ow o]) (σ ++ [some (.ref a)]) env.length a := ⟨⟨.ow o, by simp, rfl⟩, by rw [rel.len]; simp⟩
  exact call1_core (W := fun cls d _ H' => W cls d σ H') (l := []) (r := []) (vl := []) (vr := []) (i := env.length) (Qd := fun v e' => Qd v (e'.take env.length)) (Ed := fun x e' => Ed x (e'.take env.length)) (rel.push hw nF nB no) ho hw (hm a)
    (fun rr env' v F' H' q st rl rs => hq rr _ v F' H' q st (by rw [rel.len]; exact rl.popTake) (by rw [rel.len]; exact rs.popTake))
    (fun x env' cls d F' H' q st rl rx => he x _ cls d F' H' q st (by rw [rel.len]; exact rl.popTake) rx) rfl rfl rfl
end
section
variable {X : Cx} {C : Addr} {W : WX} {e o : Expr} {es : List Expr} {p pos apos : Pos} {k n : Nat} {f : Addr} {fd : FuncData} {ps : List Str} {df : DF} {x : Str} {mo : M O} {ma mb md : M D}
theorem c_new (Fn : FnG X.prog X.w X.K X.mg X.base k f fd ps (spD (gx X C) 1 df)) (hr : Room k X.A) (hG : X.A.guards = some []) (tk : L2N.Takes X W) (hg : Gl X x) (hm : X.mg x = some (.ref f)) (hk : PySem.W.keepIn X.K (.ref f) = true) (hb : Binds X.K fd ps [])
    (hn : 1 = ps.length) (he : PE X e (tO (gx X C) W mo)) (hdb : (x == ("__debug__" : Str)) = false := by decide) (hs : starEach [e] X.env = (false, eval e X.env) :: starEach [] X.env := by rfl) (hpl : (backTo pos (starEach [] X.env)).any (·.1) = false := by rfl) :
    PE X (.Call (.Name x p) [e] [] pos) (tRs (gx X C) W (bnd mo (callF df))) := ⟨fun pins s σ H Q I h => by
  refine wpAny_Call_Name_kw (ld_glob I hg hm (PySem.W.callWith_K (h₀ := X.base) I.ok.mod.kin hk (thn ((pa_cons he pa_nil hs).run pos pins s σ H (fun vs H1 => vs.length = 1 ∧ spD (gx X C) 1 df vs H1 Q (WE W σ)) I ?_) fun us s1 ⟨vs, H1, I1, r, l, q⟩ => ⟨I1.kIn, wpAny_call ?_⟩) hs hpl) hdb)
  · exact (lift1 (Ra := RO (gx X C)) h).imp fun v H1 ⟨B, F, env, o, q, r⟩ => ⟨rfl, q.callF r⟩
  · have hb' := hb s1 us I1.kIn (by rw [List.append_nil, ← r.length, l, hn])
    rw [List.append_nil] at hb'
    exact run_g Fn hr hG tk I1 hb' r q⟩
/-! ### texts -/
def splD (a b : D) : M D := match a, b with
  | .str s, .str t => ask ((t.length == 0) = false ∧ s.length + 2 ≤ sizeLine) (ret (.lst ((Txt.split s t).map .str)))
  | _, _ => fail
def splM (ma mb : M D) : M D := bnd ma fun a => match a with
  | .str _ => bnd mb (splD a)
  | _ => fail
theorem rpl_strs {G : Gx} {F : Addr → Prop} {H : Hp} : ∀ l : List Str, RpL G F H (l.map D.str) (l.map V.str)
  | [] => rfl
  | y :: l => ⟨_, _, rfl, rfl, rpl_strs l⟩
theorem e_split (ha : PE X o (tD (gx X C) W ma)) (hb : PE X e (tD (gx X C) W mb)) (hs : starEach [e] X.env = [(false, eval e X.env)] := by rfl) (hbase : attributeBase o "split" X.env (eval o X.env) = eval o X.env := by rfl) (hline : (apos.endLine == pos.line) = true := by rfl) :
    PE X (.Call (.Attribute o "split" apos) [e] [] pos) (tD (gx X C) W (splM ma mb)) :=
  peImp (pe_split ha hb hs hbase hline) fun σ H Q ⟨B, F, env, h⟩ => (h.bind (Ra := RD (gx X C)) (as := []) (xs := []) rfl).imp fun v H1 ⟨F1, env1, d, h, _, rd⟩ => by
    cases d with
    | str s =>
      cases (show _ = _ from rd)
      refine ⟨⟨s, rfl⟩, (h.bind (Ra := RD (gx X C)) (as := []) (xs := []) rfl).imp fun v2 H2 ⟨F2, env2, d2, h, _, rd2⟩ => ?_⟩
      cases d2 with
      | str t =>
        cases (show _ = _ from rd2)
        obtain ⟨⟨h1, h2⟩, h⟩ := Pt.asked h
        exact ⟨s, t, rfl, rfl, h1, h2, fun p hp => Pt.lst h (rpl_strs _) hp⟩
      | _ => exact (Pt.no h).elim
    | _ => exact (Pt.no h).elim
def fmtD : D → M D
  | .int i => ask (i.natAbs.log2 < 1920) (ret (.str (toString i : String)))
  | .str y => ask (y.length ≤ sizeLine) (ret (.str y))
  | _ => fail
theorem e_fmt (he : PE X e (tD (gx X C) W ma)) : PE X (.FormattedValue e (-1) none pos) (tD (gx X C) W (bnd ma fmtD)) :=
  peImp (pe_fmt he) fun σ H Q h => (lift1 (Ra := RD (gx X C)) h).imp fun v H1 ⟨B, F, env, d, h, rd⟩ => by
    cases d with
    | int i => cases (show _ = _ from rd); obtain ⟨h1, h⟩ := Pt.asked h; exact .inr ⟨i, rfl, h1, h.pure (b := .str _) rfl⟩
    | str y => cases (show _ = _ from rd); obtain ⟨h1, h⟩ := Pt.asked h; exact .inl ⟨y, rfl, h1, h.pure (b := .str _) rfl⟩
    | _ => exact (Pt.no h).elim
def catTo (acc : Str) (k : Str → M D) (d : D) : M D := match d with
  | .str y => ask ((acc ++ y).length ≤ sizeLine) (k (acc ++ y))
  | _ => fail
def joinM : List (M D) → Str → M D
  | [], acc => ret (.str acc)
  | m :: ms, acc => bnd m (catTo acc (joinM ms))
theorem js_run {G : Gx} : ∀ (ms : List (M D)) (acc : Str) {σ : L2.St} {H : Hp} {B F : Addr → Prop} {env : List Slot} {Q : V → Hp → Prop}, Pt G W (RD G) σ H Q (joinM ms acc) B F env → tJs (ms.map (tD G W)) acc σ H (fun out H1 => Q (.str out) H1)
  | [], acc, _, _, _, _, _, _, h => h.pure (b := .str _) rfl
  | m :: ms, acc, σ, H, B, F, env, Q, h => (h.bind (Ra := RD G) (as := []) (xs := []) rfl).imp fun v H1 ⟨F1, env1, d, h, _, rd⟩ => by
    cases d with
    | str y =>
      cases (show _ = _ from rd)
      obtain ⟨h1, h⟩ := Pt.asked h
      exact ⟨y, rfl, h1, js_run ms _ h⟩
    | _ => exact (Pt.no h).elim
theorem e_fstr {v1 v2 : Expr} {rest : List Expr} {ms : List (M D)} (h : PJ X (v1 :: v2 :: rest) (ms.map (tD (gx X C) W))) : PE X (.JoinedStr (v1 :: v2 :: rest) pos) (tD (gx X C) W (joinM ms Str.empty)) :=
  peImp (pe_joined h) fun σ H Q ⟨B, F, env, h⟩ => js_run ms _ h
theorem pj_cons {m : M D} {ms : List (M D)} (h : PE X e (tD (gx X C) W m)) (r : PJ X es (ms.map (tD (gx X C) W))) : PJ X (e :: es) ((m :: ms).map (tD (gx X C) W)) := .cons h r
theorem pj_nil : PJ X [] (([] : List (M D)).map (tD (gx X C) W)) := .nil
/-! ### str(hall) -/
def strR : Res → M D
  | .d (.str s) => ret (.str s)
  | _ => fail
theorem Pt.strR {G : Gx} {B F : Addr → Prop} {σ : L2.St} {H : Hp} {env : List Slot} {Q : V → Hp → Prop} {r : Res} {v : V} (q : Pt G W (RD G) σ H Q (DL.strR r) B F env) (rr : RRs G B F env σ H r v) : ∃ y, v = .str y ∧ Q (.str y) H := by
  cases r with
  | d d =>
    cases d with
    | str y => exact ⟨y, rr, Pt.pure q (b := .str y) rfl⟩
    | _ => exact (Pt.no q).elim
  | o o => exact (Pt.no q).elim
theorem e_hstr (hk : HallK X.K C) (Fn : FnG X.prog X.w X.K X.mg X.base k f fd ps (spD (gx X C) 1 df)) (hr : Room (k + 2) X.A) (hG : X.A.guards = some []) (tk : L2N.Takes X W) (hm : Meth X.K C "__str__" f) (hb : Binds X.K fd ps []) (hn : 1 = ps.length)
    (hg : Gl X "str") (hmg : X.mg "str" = none) (he : PE X o (tD (gx X C) W md)) (na : starEach [o] X.env = (false, eval o X.env) :: starEach [] X.env := by rfl) (hpl : (backTo pos (starEach [] X.env)).any (·.1) = false := by rfl) :
    PE X (.Call (.Name "str" p) [o] [] pos) (tD (gx X C) W (bnd (bnd md (hcallM df)) strR)) := by
  refine ⟨fun pins s σ H Q I h => ?_⟩
  refine Call_ (ld_blt I hg hmg (PyProof.Rows.Boot.str) (PyProof.Rows.callWith_type1 (one_arg he I (lift1 (Ra := RD (gx X C)) h) (fun u s1 v H1 I1 ru ⟨B, F, env, d, q, rd⟩ => ?_) na) na hpl))
  cases d with
  | hall g sp =>
    obtain ⟨a, dx, ea, hF, h1⟩ := id rd
    subst ea
    obtain rfl : u = Value.ref a := ru
    obtain ⟨mA, O, _⟩ := ins_get I1.hok h1
    obtain ⟨od, J, _⟩ := O.look
    have q : Pt (gx X C) W (RD (gx X C)) σ H1 Q (bnd (callD df [.hall g sp]) strR) B F env := q
    refine PySem.W.kso_call (by have := hr.un; show X.A.units + 1 + 1 < _; omega) I1.kIn J hm.at_ hm.fn ?_
    have hb' := hb s1 [.ref a] I1.kIn (by rw [List.append_nil]; exact hn)
    rw [List.append_nil] at hb'
    have pc := (q.bindP (Ra := RRs (gx X C)) (as := []) (xs := []) rfl).imp fun v H2 ⟨F2, env2, r2, p2, _, rr2⟩ => p2.strR rr2
    have e1 : Env0 X.prog X.w X.K X.mg X.base X.A.in1.in1 X.stack s1 H1 := let e := I1.env0; ⟨e.frames, e.mod, e.bs, e.bsz, e.funs, e.frf, e.hok, e.bare⟩
    refine wpAny_call (codeAny_mono (Fn.run X.A.in1.in1 X.stack s1 H1 ⟨[.ref a], []⟩ [.ref a] [.ref a] _ (WE W σ) hr.in1.in1 hG e1 hb' (.cons rfl .nil) (Pt.callD (vs := [.ref a]) pc ⟨_, [], rfl, rd, rfl⟩ rfl)) fun rr s' hq => ?_)
    match rr, hq with
    | .error ex, hq => exact L2N.passAt tk σ pins H1 s1 ex s' I1 hq
    | .ok (.ret w), hq =>
      obtain ⟨v, H2, I2, rv, y, ev, qq⟩ := I1.after hq
      subst ev
      obtain ⟨t, rfl⟩ := rv
      exact ⟨.str y, H2, I2, ⟨t, rfl⟩, qq⟩
    | .ok .next, hq => exact hq.elim
    | .ok .brk, hq => exact hq.elim
    | .ok .cont, hq => exact hq.elim
  | _ => exact (Pt.unknown (k := strR) q).elim
end
end DL

set_option Elab.async false
set_option linter.all false
set_option maxRecDepth 100000
set_option maxHeartbeats 2000000
/-! Suites of except clauses, written out. -/
namespace DL
open PySem PySem.Spec PyProof.Rows L2
variable [Tbs]
section
variable {X : Cx} {C : Addr} {W : WX} {e h e2 : Expr} {a : Addr} {mh : M Res} {md m2 : M D} {pos : Pos} {k1 : Nat}
theorem _root_.L2.Room.suite {k j : Nat} {A : Around} {o : Option Value} (r : Room k A) (h : j ≤ k) : RoomX j (A.mark o) := RoomX.mono ⟨r.dp, r.un⟩ h
theorem _root_.L2.Room.unitsS {k : Nat} {A : Around} {o : Option Value} (r : Room k A) : (A.mark o).units + 64 < cLine := by
  have := r.un
  show A.units + 64 < cLine
  omega
theorem _root_.L2.Room.room100S {k : Nat} {A : Around} {o : Option Value} (r : Room k A) : (A.mark o).units + 100 < cLine := by
  have := r.un
  show A.units + 100 < cLine
  omega
theorem nm_own {cs ts hs fs : List Str} (T : ExAll X.K X.mg cs ts hs fs) {t : Str} (ht : t ∈ cs) (hl : X.env.scope.names.lookup t = some NameKind.globalImplicit) (hb : exBlt t = none) (hd : (t == ("__debug__" : Str)) = false := by decide) : Names X t (exV X.K t) := by
  refine ⟨hl, hd, .inl ?_⟩
  rw [(T.one t ht).at_]
  unfold exV
  rw [hb]
theorem Pt.rd {G : Gx} {B F : Addr → Prop} {σ : L2.St} {H : Hp} {env : List Slot} {Q : V → Hp → Prop} {x : D} (h : Pt G W (RRs G) σ H Q (ret (.d x)) B F env) : Pt G W (RD G) σ H Q (ret x) B F env := by
  obtain ⟨Qd, Ed, rel, hm, hq, he⟩ := h
  exact ⟨fun d env' => Qd (.d d) env', Ed, rel, hm, fun d env' v F' H' q st rl r => hq (.d d) env' v F' H' q st rl r, he⟩
/-- (f(x), e2) -/
def hotK (m2 : M D) : Res → M Res
  | .d d => bnd m2 fun d2 => ret (.d (.tup [d, d2]))
  | _ => fail
def hotT (mh : M Res) (m2 : M D) : M Res := bnd mh (hotK m2)
theorem h_tup (hh : PE X h (LiftH (gx X C) W (RRs (gx X C)) a mh)) (he : PE X e2 (tD (gx X C) W m2)) (s1 : starEach [h, e2] X.env = (false, eval h X.env) :: starEach [e2] X.env := by rfl) (s2 : starEach [e2] X.env = (false, eval e2 X.env) :: starEach [] X.env := by rfl) :
    PE X (.Tuple [h, e2] k1 pos) (LiftH (gx X C) W (RRs (gx X C)) a (hotT mh m2)) :=
  peImp (DLt.pf_tup (pa_cons hh (pa_cons he pa_nil s2) s1)) fun σ H Q ⟨B, F, env, p, hot⟩ => by
    refine ⟨B, F, env, (p.bindP (Ra := RRs (gx X C)) (as := []) (xs := []) rfl).imp fun v H1 ⟨F1, env1, r, p, _, rr⟩ => ?_, hot⟩
    cases r with
    | d d =>
      refine (p.bind (Ra := RD (gx X C)) (as := [d]) (xs := [v]) ⟨v, [], rfl, rr, rfl⟩).imp fun v2 H2 ⟨F3, env3, d2, p, ⟨x, r', ev, rx, er⟩, rd2⟩ => ?_
      cases (show _ = _ from er)
      cases ev
      exact ⟨by show 2 ≤ sizeLine; rw [sizeLine_eq]; decide, p.rd.tup ⟨_, _, rfl, rx, _, _, rfl, rd2, rfl⟩⟩
    | o o => exact (Pt.no p).elim
end
end DL

set_option Elab.async false
set_option linter.all false
set_option maxRecDepth 100000
set_option maxHeartbeats 2000000
/-! More of except suites; is, is not of truths; repr of data of any kind, halls too. -/
namespace DL
open PySem PySem.Spec PyProof.Rows L2
variable [Tbs]
/-! ### is -/
def isBlD : D → D → M D
  | .bl a, .bl b => ret (.bl (decide (a = b)))
  | _, _ => fail
def notBlD : D → D → M D
  | .bl a, .bl b => ret (.bl (!decide (a = b)))
  | _, _ => fail
theorem fits_isBl {G : Gx} {W : WX} : Fits G W (fun x y H Q => ∃ a b, x = .bl a ∧ y = .bl b ∧ Q (.bl (decide (a = b))) H) isBlD := by
  intro σ H Q B F env x y a b h ra rb
  cases a with
  | bl a =>
    cases b with
    | bl b => exact ⟨a, b, ra, rb, h.pure (b := .bl _) rfl⟩
    | _ => exact h.no.elim
  | _ => cases b <;> exact h.no.elim
theorem fits_notBl {G : Gx} {W : WX} : Fits G W (fun x y H Q => ∃ a b, x = .bl a ∧ y = .bl b ∧ Q (.bl (!decide (a = b))) H) notBlD := by
  intro σ H Q B F env x y a b h ra rb
  cases a with
  | bl a =>
    cases b with
    | bl b => exact ⟨a, b, ra, rb, h.pure (b := .bl _) rfl⟩
    | _ => exact h.no.elim
  | _ => cases b <;> exact h.no.elim
/-! ### suites -/
section
variable {G : Gx} {W : WX} {B F : Addr → Prop} {σ : L2.St} {H : Hp} {env : List Slot} {α β : Type}
theorem Ps.bindP {ma : M α} {k : α → M Fl} {Ra : (Addr → Prop) → (Addr → Prop) → List Slot → L2.St → Hp → α → β → Prop} {Z : Ends} (h : Ps G W (bnd ma k) Z σ H B F env) :
    Pt G W Ra σ H (fun y H' => ∃ F' env' b, Ps G W (k b) Z σ H' B F' env' ∧ Ra B F' env' σ H' b y) ma B F env := by
  obtain ⟨Qd, Ed, rel, hm, h1, h2, h3, h4, h5⟩ := h
  exact ⟨fun a env' => k a env' Qd Ed, Ed, rel, hm, fun a env' b F' H' hk st rl hr => ⟨F', env', a, ⟨Qd, Ed, rl, hk, fun e s f h' q s2 => h1 e s f h' q (st.trans s2), fun e s f h' q s2 => h2 e s f h' q (st.trans s2), fun e s f h' q s2 => h3 e s f h' q (st.trans s2),
    fun r e s f h' v q s2 => h4 r e s f h' v q (st.trans s2), fun x e s cls d f h' q s2 => h5 x e s cls d f h' q (st.trans s2)⟩, hr⟩, fun x env' cls d F' H' q st rl r => h5 x env' σ cls d F' H' q st rl r⟩
end
section
variable {X : Cx} {C : Addr} {W : WX} {a o e e2 h : Expr} {ad : Addr} {md m2 : M D} {mh : M Res} {m k : M Fl} {i k1 : Nat} {x : Str} {p p2 pos apos cpos : Pos} {st : Stmt} {sts : List Stmt}
/-- a def's answer, a datum -/
def resH : Res → M D
  | .d d => ret d
  | _ => fail
theorem h_res (he : PE X e (LiftH (gx X C) W (RRs (gx X C)) ad mh)) : PE X e (LiftH (gx X C) W (RD (gx X C)) ad (bnd mh resH)) :=
  peImp he fun σ H Q ⟨B, F, env, q, hot⟩ => ⟨B, F, env, (q.bindP (Ra := RRs (gx X C)) (as := []) (xs := []) rfl).imp fun v H1 ⟨F1, env1, r, q, _, rr⟩ => by
    cases r with
    | d d => exact Pt.pure q rr
    | o o => exact (Pt.no q).elim, hot⟩
def hotKL (m2 : M D) : Res → M D
  | .d d => bnd m2 fun d2 => ret (.lst [d, d2])
  | _ => fail
def hotL (mh : M Res) (m2 : M D) : M D := bnd mh (hotKL m2)
theorem h_lst (hh : PE X h (LiftH (gx X C) W (RRs (gx X C)) ad mh)) (he : PE X e2 (tD (gx X C) W m2)) (s1 : starEach [h, e2] X.env = (false, eval h X.env) :: starEach [e2] X.env := by rfl) (s2 : starEach [e2] X.env = (false, eval e2 X.env) :: starEach [] X.env := by rfl) :
    PE X (.List [h, e2] pos) (LiftH (gx X C) W (RD (gx X C)) ad (hotL mh m2)) :=
  peImp (pe_lst (pa_cons hh (pa_cons he pa_nil s2) s1)) fun σ H Q ⟨B, F, env, q, hot⟩ => by
    refine ⟨B, F, env, (q.bindP (Ra := RRs (gx X C)) (as := []) (xs := []) rfl).imp fun v H1 ⟨F1, env1, r, q, _, rr⟩ => ?_, hot⟩
    cases r with
    | d d =>
      show tD (gx X C) W m2 σ H1 fun x H2 => ([v, x] : List V).length ≤ sizeLine ∧ ∀ b, H2 b = none → Q (.ref b) (upd H2 b (.lst [v, x]))
      have q : Pt (gx X C) W (RD (gx X C)) σ H1 Q (bnd m2 fun d2 => ret (.lst [d, d2])) B F1 env1 := q
      refine (q.bind (Ra := RD (gx X C)) (as := [d]) (xs := [v]) ⟨v, [], rfl, rr, rfl⟩).imp fun v2 H2 ⟨F3, env3, d2, q, ⟨x, r', ev, rx, er⟩, rd2⟩ => ?_
      cases (show _ = _ from er)
      cases ev
      exact ⟨by show 2 ≤ sizeLine; rw [sizeLine_eq]; decide, fun b hb => q.lst ⟨_, _, rfl, rx, _, _, rfl, rd2, rfl⟩ hb⟩
    | o o => exact (Pt.no q).elim
theorem h_app (ha : PE X o (tVar i)) (hb : PE X e (LiftH (gx X C) W (RD (gx X C)) ad md)) (hbase : attributeBase o "append" X.env (eval o X.env) = eval o X.env := by rfl)
    (hfew : ((backTo cpos (starEach [e] X.env)).all (fun x => !x.1) && (backToKw cpos (keywordEach [] X.env)).all (fun x => x.1.isSome)
      && decide ([e].length + ([] : List Keyword).length + (if ([] : List Keyword).isEmpty then 0 else 1) < 30)) = true := by rfl)
    (hline : (apos.endLine == cpos.line) = true := by rfl) (hs : starEach [e] X.env = (false, eval e X.env) :: starEach [] X.env := by rfl) (hpl : (backTo cpos (starEach [] X.env)).any (·.1) = false := by rfl) :
    PE X (.Call (.Attribute o "append" apos) [e] [] cpos) (LiftH (gx X C) W (RD (gx X C)) ad (oappM i md)) :=
  peImp (pe_bm F.plainAttrs_list F.slot_list_append F.type_list_append mt_append ha (pa_cons hb pa_nil hs) hbase hfew hline hs hpl) fun σ H Q ⟨B, F, env, q, hot⟩ => by
    obtain ⟨b, o1, vs0, e1, hv0, rv0, own0, q⟩ := Pt.olist q
    refine ⟨_, e1, .inl ⟨rfl, vs0, SqL.of hv0⟩, B, F, env, (q.bindP (Ra := RD (gx X C)) (as := []) (xs := []) rfl).imp fun y H2 ⟨F2, env2, d, p2, _, r2⟩ => ?_, hot⟩
    obtain ⟨q', ds, vs, e1', hv, rv, own, p3⟩ := p2.olist
    rw [e1] at e1'; cases e1'
    obtain ⟨sz, p3⟩ := p3.asked
    exact ⟨b, vs, y, rfl, rfl, hv, by rw [← rv.length]; exact sz, (p3.putL own hv rv (rv.snoc r2)).pure (b := .non) rfl⟩
theorem h_expr (he : PE X e (LiftH (gx X C) W (RD (gx X C)) ad md)) (hs : swapsWith e none pos.line X.env = pure false := by rfl) : PS X (.Expr e pos) (tSH (gx X C) W ad (thenN md)) :=
  psImp (ps_expr he hs) fun D σ H ⟨B, F, env, q, hot⟩ => ⟨B, F, env, (Ps.bindP (Ra := RD (gx X C)) q).imp fun x H1 ⟨F1, env1, d, p, r⟩ => p.next, hot⟩
theorem h_set (hN : X.N.Nodup) (hi : X.N[i]? = some x) (hx : Loc X.env.scope x) (he : PE X e (LiftH (gx X C) W (RD (gx X C)) ad md)) (hs : swapsWith e (some (.Name x p)) pos.line X.env = pure false := by rfl)
    (hf : X.fn x = true ∨ X.env.scope.names.lookup x = some .local := by first | exact .inl rfl | exact .inr rfl | assumption) : PS X (.Assign [.Name x p] e pos) (tSH (gx X C) W ad (thenN (bnd md (setI i)))) :=
  psImp (ps_set hN hi hx he hs hf) fun D σ H ⟨B, F, env, q, hot⟩ => by
    have q : Ps (gx X C) W (bnd md fun d => bnd (setI i d) fun _ => ret .nx) D σ H B F env := q
    refine ⟨B, F, env, (Ps.bindP (Ra := RD (gx X C)) q).imp fun y H1 ⟨F1, env1, d, ⟨Qd, Ed, rel, hm, h1, h2, h3, h4, h5⟩, r⟩ => ?_, hot⟩
    have hm := setI_spec (show setI i d env1 (fun _ env' => Qd .nx env') Ed from hm)
    exact h1 _ _ F1 H1 hm Stp.refl (rel.setI r)
theorem h_cons (h1 : PS X st (tSH (gx X C) W ad m)) (h2 : PSs X sts (tS (gx X C) W k)) : PSs X (st :: sts) (tSH (gx X C) W ad (seqM m k)) :=
  pssImp (pss_cons h1 h2) fun D σ H ⟨B, F, env, q, hot⟩ => ⟨B, F, env, q.seq fun _ _ z => z, hot⟩
/-! ### repr, halls too -/
def reprX (df : DF) (d : D) : M D := match d with
  | .hall g s => bnd (callD df [.hall g s]) strR
  | d => reprE d
variable {kk : Nat} {f : Addr} {fd : FuncData} {ps : List Str} {df : DF}
theorem e_repX (hk : HallK X.K C) (Fn : FnG X.prog X.w X.K X.mg X.base kk f fd ps (spD (gx X C) 1 df)) (hr : Room (kk + 1) X.A) (hG : X.A.guards = some []) (tk : L2N.Takes X W) (hm : Meth X.K C "__repr__" f) (hb : Binds X.K fd ps []) (hn : 1 = ps.length)
    (hg : Gl X "repr") (hmg : X.mg "repr" = none) (he : PE X o (tD (gx X C) W md)) (na : starEach [o] X.env = (false, eval o X.env) :: starEach [] X.env := by rfl) (hpl : (backTo pos (starEach [] X.env)).any (·.1) = false := by rfl) :
    PE X (.Call (.Name "repr" p) [o] [] pos) (tD (gx X C) W (bnd md (reprX df))) := by
  refine ⟨fun pins s σ H Q I h => ?_⟩
  refine Call_ (ld_blt I hg hmg boot_repr (PyProof.Rows.callWith_builtin1 (one_arg he I (lift1 (Ra := RD (gx X C)) h) (fun u s1 v H1 I1 ru ⟨B, F, env, d, q, rd⟩ => ?_) na) na hpl))
  by_cases z : ∃ g sp, d = .hall g sp
  · obtain ⟨g, sp, e⟩ := z
    subst e
    obtain ⟨a, dx, ea, hF, h1⟩ := id rd
    subst ea
    obtain rfl : u = Value.ref a := ru
    obtain ⟨mA, O, _⟩ := ins_get I1.hok h1
    obtain ⟨od, J, _⟩ := O.look
    have q : Pt (gx X C) W (RD (gx X C)) σ H1 Q (bnd (callD df [.hall g sp]) strR) B F env := q
    obtain ⟨mF, FF⟩ := I1.fr
    refine PySem.W.repr_K (by have := hr.un; show X.A.units + 1 < _; omega) FF I1.mod.kin J hm.at_ hm.fn ?_
    have hb' := hb s1 [.ref a] I1.kIn (by rw [List.append_nil]; exact hn)
    rw [List.append_nil] at hb'
    have pc := (q.bindP (Ra := RRs (gx X C)) (as := []) (xs := []) rfl).imp fun v H2 ⟨F2, env2, r2, p2, _, rr2⟩ => p2.strR rr2
    have e1 : Env0 X.prog X.w X.K X.mg X.base X.A.in1 X.stack s1 H1 := let e := I1.env0; ⟨e.frames, e.mod, e.bs, e.bsz, e.funs, e.frf, e.hok, e.bare⟩
    refine wpAny_call (codeAny_mono (Fn.run X.A.in1 X.stack s1 H1 ⟨[.ref a], []⟩ [.ref a] [.ref a] _ (WE W σ) hr.in1 hG e1 hb' (.cons rfl .nil) (Pt.callD (vs := [.ref a]) pc ⟨_, [], rfl, rd, rfl⟩ rfl)) fun rr s' hq => ?_)
    match rr, hq with
    | .error ex, hq => exact L2N.passAt tk σ pins H1 s1 ex s' I1 hq
    | .ok (.ret w), hq =>
      obtain ⟨v, H2, I2, rv, y, ev, qq⟩ := I1.after hq
      subst ev
      obtain ⟨t, rfl⟩ := rv
      exact ⟨.str y, H2, I2, ⟨t, rfl⟩, qq⟩
    | .ok .next, hq => exact hq.elim
    | .ok .brk, hq => exact hq.elim
    | .ok .cont, hq => exact hq.elim
  · have e : reprX df d = reprE d := by
      cases d with
      | hall g sp => exact (z ⟨g, sp, rfl⟩).elim
      | _ => rfl
    rw [e] at q
    exact call_reprE (C := C) hG (by have := hr.un; omega) pins s1 σ H1 [v] [u] Q I1 (.cons ru .nil) (fits_reprE.go (k := un1 reprE) (ds := [d]) q ⟨v, [], rfl, rd, rfl⟩)
end
end DL

set_option Elab.async false
set_option linter.all false
set_option maxRecDepth 100000
set_option maxHeartbeats 2000000
/-! t[::-1] of a tuple of any length but none. -/
namespace DLt
open PySem PySem.Spec PyProof.Rows L2
theorem fm_congr {α β : Type} {f g : α → Option β} : ∀ {l : List α}, (∀ a ∈ l, f a = g a) → l.filterMap f = l.filterMap g
  | [], _ => rfl
  | a :: l, h => by rw [List.filterMap_cons, List.filterMap_cons, h a List.mem_cons_self, fm_congr fun b hb => h b (List.mem_cons_of_mem _ hb)]
theorem turn_bounds (n : Nat) : Builtin.Slice.sliceAdjust none none (-1) (n : Int) = ((n : Int) - 1, -1) := rfl
theorem turn_places (n : Nat) : Builtin.Slice.slicePlaces ((n : Int) - 1) (-1) (-1) = n := by
  rcases Nat.eq_zero_or_pos n with h | h
  · subst h; rfl
  unfold Builtin.Slice.slicePlaces
  rw [if_neg (by decide), if_pos (by omega)]
  have : (- -1 : Int) = 1 := by decide
  rw [this, Int.ediv_one]
  omega
theorem turn_pick (xs : Array Value) : ((List.range xs.size).filterMap fun (k : Nat) => xs[((xs.size : Int) - 1 + (k : Int) * (-1)).toNat]?) = xs.toList.reverse := by
  have e := PySem.W.krv_all xs.toList.reverse.toArray
  rw [show xs.toList.reverse.toArray.size = xs.size by simp] at e
  rw [show xs.toList.reverse.toArray.toList = xs.toList.reverse from rfl] at e
  rw [← e]
  refine fm_congr fun k hk => ?_
  have hk := List.mem_range.mp hk
  show xs[((xs.size : Int) - 1 + (k : Int) * (-1)).toNat]? = xs.toList.reverse.toArray[k]?
  have e1 : xs.toList.reverse.toArray[k]? = xs.toList.reverse[k]? := by simp
  rw [e1, List.getElem?_reverse (by simpa using hk), ← Array.getElem?_toList]
  congr 1
  rw [Array.length_toList]
  omega
section
variable {prog : Program} {w : World} {A : Around} {E : Value → Shared → Prop} {s : Shared}
theorem sliceApplied_turn {sl : Addr} {vs : Value} {n : Nat} {Q : Int × Int × Nat → Shared → Prop} (hs : s.heap.IsSliceOf sl .none .none vs) (ps : IsPart vs (some (-1))) (h : Q ((n : Int) - 1, -1, n) s) : wpAny (model prog w) A (Builtin.Slice.sliceApplied (.ref sl) (pure (n : Int))) Q E s := by
  obtain ⟨os, hos, hcs, hds⟩ := id hs
  unfold Builtin.Slice.sliceApplied Builtin.Slice.sliceFields
  refine wpAny_bind (wpAny_bind (wpAny_field hos hds (x := .none) rfl (wpAny_bind (wpAny_field hos hds (x := .none) rfl (wpAny_bind (wpAny_field hos hds (x := vs) rfl (wpAny_pure ?_)))))))
  refine wpAny_bind (HT.slicePart_ ps ?_)
  show wpAny _ _ (if ((-1 : Int) == 0) = true then _ else _) _ _ s
  rw [if_neg (by decide)]
  refine wpAny_bind (slicePart_none (wpAny_bind (slicePart_none (wpAny_bind (wpAny_pure ?_)))))
  show wpAny _ _ (pure ((n : Int) - 1, (-1 : Int), Builtin.Slice.slicePlaces ((n : Int) - 1) (-1) (-1))) _ _ s
  rw [turn_places n]
  exact wpAny_pure h
theorem getItem_tuple_turn {t sl : Addr} {us : Array Value} {vs : Value} {Q : Value → Shared → Prop} (hz : us.size ≤ sizeLine) (ht : IsTup s.heap t us) (hs : s.heap.IsSliceOf sl .none .none vs) (ps : IsPart vs (some (-1)))
    (h : Q (.ref s.heap.objs.size) { s with heap := s.heap.push { cls := .type "tuple", data := .seq us.toList.reverse.toArray } }) : wpAny (model prog w) A (getItem (.ref t) (.ref sl)) Q E s := by
  have htake : sizeOk (.seq us.toList.reverse.toArray) := by show us.toList.reverse.toArray.size ≤ sizeLine; simpa using hz
  obtain ⟨os, hos, hcs, hds⟩ := id hs
  have hTs : s.TypeIs (.ref sl) "slice" := ⟨os, hos, hcs⟩
  unfold getItem
  try with_reducible refine wpAny_holding ?_
  first | refine wpAny_bind (wpAny_pure ?_) | skip
  refine wpAny_bind (wpAny_sequenceKey ht.typeIs (by decide) ?_)
  refine wpAny_bind (wpAny_callSpecial?_slot (name := Str.ofString "__getitem__") ht.typeIs PyProof.Rows.slot_tuple_getitem
    (wpAny_call_entry PyProof.Rows.slot_tuple_getitem ht.typeIs entry_tuple_getitem ?_ (args_tuple_getitem _ _)))
  show wpAny _ _ (Builtin.Tuple.tupleItemsOf (.ref t) >>= _) _ _ s
  refine wpAny_bind (tupleItemsOf_ ht ?_)
  refine wpAny_bind (wpAny_typeOf hTs ?_)
  rw [if_pos (by decide)]
  refine wpAny_bind (sliceApplied_turn hs ps ?_)
  show wpAny _ _ (if (((us.size : Int) - 1) == 0 && (-1 : Int) == 1 && us.size == us.size) = true then _ else _) _ _ s
  rw [if_neg (fun h => by simp at h)]
  rw [show ((List.range us.size).filterMap fun (k : Nat) => us[((us.size : Int) - 1 + (k : Int) * (-1)).toNat]?) = us.toList.reverse from turn_pick us]
  first
    | exact wpAny_bind (m := Builtin.Tuple.tupleExact _) (wpAny_newObj_type (wpAny_pure ⟨_, rfl, wpAny_pure h⟩) htake)
    | exact wpAny_bind (m := Builtin.Tuple.tupleExact _) (wpAny_newObj_type (wpAny_bind (wpAny_pure (wpAny_pure ⟨_, rfl, wpAny_pure h⟩))) htake)
    | exact wpAny_bind (wpAny_bind (m := Builtin.Tuple.tupleExact _) (wpAny_newObj_type (wpAny_pure (wpAny_pure ⟨_, rfl, wpAny_pure h⟩)) htake))
    | exact wpAny_bind (wpAny_bind (m := Builtin.Tuple.tupleExact _) (wpAny_newObj_type (wpAny_pure ⟨_, rfl, wpAny_pure h⟩) htake))
end
section
variable {X : Cx}
def tTurn (K : PySem.W.Frag) (te : TE) : TE := fun σ H Q => te σ H fun x H1 => ∃ a ws, x = .ref a ∧ SqT K H1 a ws ∧ ws.length ≤ sizeLine ∧ NewT ws.reverse H1 Q
theorem pe_turn {e : Expr} {te : TE} {k : Nat} {p1 p2 p3 pos : Pos} (he : PE X e te) : PE X (.Subscript e (.Slice none none (some (.UnaryOp .USub (.Constant (.int 1) k p1) p2)) p3) pos) (tTurn X.K te) := by
  refine ⟨fun pins s σ H Q I h => ?_⟩
  refine Subscript_ (thn (he.run pins s σ H _ I h) fun v s1 ⟨x, H1, I1, r1, q1⟩ => ?_)
  obtain ⟨a, ws, ex, hx, zl, q⟩ := q1
  subst ex
  cases r1
  have hst : PO X (some (.UnaryOp .USub (.Constant (.int 1) k p1) p2)) (tPart (tUn (rU fun i => .int (-i)) (tC (.int 1)))) := po_some (pe_un un_neg pe_int)
  refine wpAny_Slice (thn (po_none.run pins s1 σ H1 (fun o H2 => o = none ∧ H2 = H1) I1 ⟨rfl, rfl⟩) fun vl s2 ⟨l, H2, I2, pl, el, e2⟩ => ?_)
  subst el e2
  refine thn (po_none.run pins s2 σ H2 (fun o H3 => o = none ∧ H3 = H2) I2 ⟨rfl, rfl⟩) fun vu s3 ⟨u, H3, I3, pu, eu, e3⟩ => ?_
  subst eu e3
  refine thn (hst.run pins s3 σ H3 (fun o H4 => o = some (-1) ∧ H4 = H3) I3 ⟨1, rfl, -1, rfl, rfl, rfl⟩) fun vs s4 ⟨o, H4, I4, ps, eo, e4⟩ => ?_
  subst eo e4
  have I5 : Inv X pins σ H4 { s4 with heap := s4.heap.push { cls := .type "slice", data := .fields #[vl, vu, vs] } } := I4.kept (t' := s4.toks) fun b ob q => Heap.get?_push_of_some _ q
  obtain ⟨us, rv, tp, sz⟩ := I5.tuple hx
  have len := rv.length
  show wpAny (model X.prog X.w) X.A (subscriptTail e (.Slice none none (some (.UnaryOp .USub (.Constant (.int 1) k p1) p2)) p3) (.ref a) (.ref s4.heap.objs.size)) (EP X pins σ Q) X.xe { s4 with heap := s4.heap.push { cls := .type "slice", data := .fields #[vl, vu, vs] } }
  refine tail_any (ops := [.ref a, .ref s4.heap.objs.size]) tp.typeIs (PyProof.Rows.slot_tuple_getitem.lookup) ?_ (by with_unfolding_all rfl)
  cases pl
  cases pu
  refine getItem_tuple_turn (by rw [List.size_toArray, ← len]; exact zl) tp (Heap.IsSliceOf.new _ _ _ vs) ps ?_
  exact made I5 (us := us.reverse) rv.reverse (by rw [List.length_reverse]; exact zl) q
end
end DLt
namespace DL
open PySem PySem.Spec PyProof.Rows L2
variable [Tbs]
/-- t[::-1] -/
def turnD (d : D) : M D := match d with
  | .tup ds => ask (ds.length ≤ sizeLine) (ret (.tup ds.reverse))
  | _ => fail
def turnsM (ma : M D) : M D := bnd ma turnD
section
variable {X : Cx} {C : Addr} {W : WX} {a : Expr} {ma : M D} {k : Nat} {p1 p2 p3 pos : Pos}
theorem rpL_rev {G : Gx} {F : Addr → Prop} {H : Hp} : ∀ {ds : List D} {vs : List V}, RpL G F H ds vs → RpL G F H ds.reverse vs.reverse
  | [], _, h => by cases (show _ = _ from h); exact rfl
  | d :: ds, _, ⟨v, r, e, h1, h2⟩ => by
    subst e
    rw [List.reverse_cons, List.reverse_cons]
    exact RpL.append (rpL_rev h2) ⟨v, [], rfl, h1, rfl⟩
theorem e_turn (ha : PE X a (tD (gx X C) W ma)) : PE X (.Subscript a (.Slice none none (some (.UnaryOp .USub (.Constant (.int 1) k p1) p2)) p3) pos) (tD (gx X C) W (turnsM ma)) :=
  peImp (DLt.pe_turn ha) fun σ H Q h => (lift1 (Ra := RD (gx X C)) h).imp fun x H1 ⟨B, F, env, d, p, r⟩ => by
    cases d with
    | tup ds =>
      obtain ⟨q, vs, e, h1, h2⟩ := id r
      subst e
      obtain ⟨n2, p⟩ := Pt.asked p
      exact ⟨q, vs, rfl, .inl h1.rd, by rw [← RpL.length h2]; exact n2, Pt.tup p (rpL_rev h2)⟩
    | _ => exact (Pt.no p).elim
end
end DL

set_option Elab.async false
set_option linter.all false
set_option maxRecDepth 100000
set_option maxHeartbeats 2000000
/-! str of whole numbers, texts, tuples, lists. -/
namespace DL
open PySem PySem.Spec PyProof.Rows L2
variable [Tbs]
def txtD (d : D) : M D := match d with
  | .int i => ask (i.natAbs.log2 < 1920) (ret (.str (toString i : String)))
  | .str s => ret (.str s)
  | d => ask (compD d = true ∧ pyOk d = true ∧ shOk (py d) = true) (ret (.str (py d).shown))
def rTxt (K : PySem.W.Frag) : List V → Hp → VK → Prop := fun xs H Q => (∃ a, xs = [.str a] ∧ Q (.str a) H) ∨ (∃ i, xs = [.int i] ∧ i.natAbs.log2 < 1920 ∧ Q (.str (toString i)) H) ∨ ∃ p d, xs = [.ref p] ∧ Dp K H (.ref p) d ∧ shOk d = true ∧ Q (.str d.shown) H
section
variable {X : Cx} {W : WX}
theorem call_txtD (hG : X.A.guards = some []) (hu : X.A.units + 100 < cLine) : CallR X (.type "str") (rTxt X.K) := by
  rintro pins s σ H xs us Q J r (⟨a, ex, q⟩ | ⟨i, ex, hz, q⟩ | ⟨p, d, ex, dp, ok, q⟩)
  · exact SkE.call_str_str _ _ _ _ _ _ _ J r ⟨a, ex, q⟩
  · exact call_str_int _ _ _ _ _ _ _ J r ⟨i, ex, hz, q⟩
  · subst ex
    obtain ⟨u, eu, ru⟩ := vals1 r
    subst eu
    obtain ⟨as, rd⟩ := Dp.reads J d (.ref p) u dp ru
    cases ru
    simp only [shOk, Bool.and_eq_true, Bool.not_eq_true', decide_eq_true_eq] at ok
    obtain ⟨⟨⟨⟨o1, o2⟩, o3⟩, o4⟩, o5⟩ := ok
    exact str_of_reads rd o1 (PyData.noDict_hsm o2) hG (by omega) (fun b o e => e) (fun h' u tk kp => ⟨.str d.shown, H, J.kept kp, ⟨u, rfl⟩, q⟩) (PyData.shown_fits_bulk (B := 13) (by decide) (by decide) o4 o5)
theorem fits_txtD {G : Gx} : FitsC G W (rTxt G.K) (un1 txtD) := fits1 fun {σ H Q B F env x d} p r => by
  cases d with
  | int i => cases (show _ = _ from r); obtain ⟨hz, p⟩ := Pt.asked p; exact .inr (.inl ⟨i, rfl, hz, p.pure (b := .str _) rfl⟩)
  | str y => cases (show _ = _ from r); exact .inl ⟨y, rfl, Pt.pure p (b := .str _) rfl⟩
  | tup ds =>
    obtain ⟨⟨c1, c2, c3⟩, p⟩ := Pt.asked p
    have dp := Rp.dp r c2
    obtain ⟨a, vs, e, _⟩ := r
    subst e
    exact .inr (.inr ⟨a, _, rfl, dp, c3, p.pure (b := .str _) rfl⟩)
  | lst ds =>
    obtain ⟨⟨c1, c2, c3⟩, p⟩ := Pt.asked p
    have dp := Rp.dp r c2
    obtain ⟨a, vs, e, _⟩ := r
    subst e
    exact .inr (.inr ⟨a, _, rfl, dp, c3, p.pure (b := .str _) rfl⟩)
  | _ => obtain ⟨⟨c1, _⟩, _⟩ := Pt.asked p; cases c1
end
end DL

set_option Elab.async false
set_option linter.all false
set_option maxRecDepth 100000
set_option maxHeartbeats 2000000
/-! a list's index, nobody writes it -/
namespace DL
open PySem PySem.Spec PyProof.Rows L2
variable [Tbs]
def asLs : D → M (List D)
  | .lst ds => ret ds
  | _ => fail
def lidxM (ma mb : M D) : M D := bnd ma fun x => bnd (asLs x) fun ds => bnd mb fun y => idxL ds y
section
variable {X : Cx} {C : Addr} {W : WX} {a b : Expr} {ma mb : M D} {apos cpos : Pos}
theorem e_lidx (ha : PE X a (tD (gx X C) W ma)) (hb : PE X b (tD (gx X C) W mb)) (hbase : attributeBase a "index" X.env (eval a X.env) = eval a X.env := by rfl)
    (hfew : ((backTo cpos (starEach [b] X.env)).all (fun x => !x.1) && (backToKw cpos (keywordEach [] X.env)).all (fun x => x.1.isSome)
      && decide ([b].length + ([] : List Keyword).length + (if ([] : List Keyword).isEmpty then 0 else 1) < 30)) = true := by rfl)
    (hline : (apos.endLine == cpos.line) = true := by rfl) (hs : starEach [b] X.env = (false, eval b X.env) :: starEach [] X.env := by rfl) (hpl : (backTo cpos (starEach [] X.env)).any (·.1) = false := by rfl) :
    PE X (.Call (.Attribute a "index" apos) [b] [] cpos) (tD (gx X C) W (lidxM ma mb)) :=
  peImp (pe_bm F.plainAttrs_list F.slot_list_index F.type_list_index mt_index ha (pa_cons hb pa_nil hs) hbase hfew hline hs hpl) fun σ H Q h => (lift1 (Ra := RD (gx X C)) h).imp fun x H1 ⟨B, F, env, d, p, r⟩ => by
    cases d with
    | lst ds =>
      obtain ⟨q, vs0, ex, hF, h1, h2⟩ := id r
      subst ex
      have p : Pt (gx X C) W (RD (gx X C)) σ H1 Q (bnd mb fun y => idxL ds y) B F env := p
      refine ⟨.inl ⟨rfl, vs0, SqL.of h1⟩, (p.bind (Ra := RD (gx X C)) (as := [.lst ds]) (xs := [.ref q]) ⟨_, [], rfl, r, rfl⟩).imp fun y H2 ⟨F2, env2, yd, p2, ⟨x', r', e', rd, _⟩, ry⟩ => ?_⟩
      cases e'
      obtain ⟨⟨fy, fds, hit⟩, p2⟩ := p2.asked
      obtain ⟨q2, vs2, ex2, hF2, h12, h22⟩ := id rd
      cases ex2
      have lt : ds.findIdx (fun d => eqv d yd) < ds.length := List.findIdx_lt_length_of_exists (by simpa using hit)
      obtain ⟨w, hw, rw'⟩ := h22.get (List.getElem?_eq_getElem lt)
      have fl : ∀ d ∈ ds, flatD d = true := by simpa using fds
      refine ⟨q, vs2, y, ds.findIdx (fun d => eqv d yd), w, rfl, rfl, SqL.of h12, flat_of ry fy, flats_of h22 fds, hw, ?_, fun m z hm hz => ?_, p2.pure (b := .int _) rfl⟩
      · rw [eqv_flat rw' ry (fl _ (List.getElem_mem lt)) fy]
        exact List.findIdx_getElem (w := lt)
      · obtain ⟨d, hd, rd'⟩ := rp_at h22 hz
        obtain ⟨hm', hd'⟩ := List.getElem?_eq_some_iff.mp hd
        rw [eqv_flat rd' ry (fl _ (hd' ▸ List.getElem_mem hm')) fy]
        have := List.not_of_lt_findIdx hm
        rw [hd'] at this
        simpa using this
    | _ => exact (Pt.unknown p).elim
def lcntM (ma mb : M D) : M D := bnd ma fun x => bnd (asLs x) fun ds => bnd mb fun y => cntL ds y
theorem e_lcnt (ha : PE X a (tD (gx X C) W ma)) (hb : PE X b (tD (gx X C) W mb)) (hbase : attributeBase a "count" X.env (eval a X.env) = eval a X.env := by rfl)
    (hfew : ((backTo cpos (starEach [b] X.env)).all (fun x => !x.1) && (backToKw cpos (keywordEach [] X.env)).all (fun x => x.1.isSome)
      && decide ([b].length + ([] : List Keyword).length + (if ([] : List Keyword).isEmpty then 0 else 1) < 30)) = true := by rfl)
    (hline : (apos.endLine == cpos.line) = true := by rfl) (hs : starEach [b] X.env = (false, eval b X.env) :: starEach [] X.env := by rfl) (hpl : (backTo cpos (starEach [] X.env)).any (·.1) = false := by rfl) :
    PE X (.Call (.Attribute a "count" apos) [b] [] cpos) (tD (gx X C) W (lcntM ma mb)) :=
  peImp (pe_bm F.plainAttrs_list PySem.F.slot_list_count F.type_list_count mt_lcountF ha (pa_cons hb pa_nil hs) hbase hfew hline hs hpl) fun σ H Q h => (lift1 (Ra := RD (gx X C)) h).imp fun x H1 ⟨B, F, env, d, p, r⟩ => by
    cases d with
    | lst ds =>
      obtain ⟨q, vs0, ex, hF, h1, h2⟩ := id r
      subst ex
      have p : Pt (gx X C) W (RD (gx X C)) σ H1 Q (bnd mb fun y => cntL ds y) B F env := p
      refine ⟨.inl ⟨rfl, vs0, SqL.of h1⟩, (p.bind (Ra := RD (gx X C)) (as := [.lst ds]) (xs := [.ref q]) ⟨_, [], rfl, r, rfl⟩).imp fun y H2 ⟨F2, env2, yd, p2, ⟨x', r', e', rd, _⟩, ry⟩ => ?_⟩
      cases e'
      obtain ⟨⟨fy, fds⟩, p2⟩ := p2.asked
      obtain ⟨q2, vs2, ex2, hF2, h12, h22⟩ := id rd
      cases ex2
      refine ⟨q, vs2, y, rfl, rfl, SqL.of h12, flat_of ry fy, flats_of h22 fds, p2.pure (b := .int _) ?_⟩
      show V.int _ = V.int _
      congr 2
      exact cnt_rp ry fy h22 fds
    | _ => exact (Pt.unknown p).elim
end
end DL

set_option Elab.async false
set_option linter.all false
set_option maxRecDepth 100000
set_option maxHeartbeats 2000000
/-! a, b = a list -/
namespace DL
open PySem PySem.Spec PyProof.Rows L2
variable [Tbs]
section
variable {P : Program} {w : World} {A : Around} {R : Value → Shared → Prop}
theorem drawnL {i l : Addr} {xs : Array Value} (apart : l ≠ i) (m : Nat) : ∀ (k : Nat) (z : Shared) (Z : List Value → Shared → Prop), z.heap.IsListIter i l k → z.heap.IsList l xs → k + m ≤ xs.size →
    (∀ g, g.IsListIter i l (k + m) → Heap.SameBut i z.heap g → Z ((xs.toList.drop k).take m) { z with heap := g }) → wpAny (model P w) A (draw (.ref i) m) Z R z := by
  induction m with
  | zero =>
    intro k z Z a _ _ go
    show wpAny _ _ (pure []) Z R z
    refine wpAny_pure ?_
    have := go z.heap a (Heap.SameBut.refl ..)
    simpa using this
  | succ m ih =>
    intro k z Z a b le go
    have kx : k < xs.size := by omega
    show wpAny _ _ (pyNext (.ref i) >>= _) Z R z
    refine wpAny_bind (wpAny_pyNext_list_item a b (x := xs[k]) (by simp [kx]) fun g1 a1 s1 => ?_)
    refine wpAny_bind (wpAny_holding (ih (k + 1) _ _ a1 (b.extBut s1.extBut apart) (by omega) fun g2 a2 s2 => wpAny_pure ?_))
    have q := go g2 (by rw [show k + (m + 1) = k + 1 + m by omega]; exact a2) (s1.trans s2)
    rw [show xs.toList.drop k = xs[k] :: xs.toList.drop (k + 1) by simp [List.drop_eq_getElem_cons, kx]] at q
    exact q
theorem unpackedL {z : Shared} {l : Addr} {xs : Array Value} {Z : List Value → Shared → Prop} (hh : A.handled = none) (b : z.heap.IsList l xs) (go : ∀ g, Heap.ExtBut z.heap.objs.size z.heap g → Z xs.toList { z with heap := g }) : wpAny (model P w) A (unpackItems (.ref l) xs.size none) Z R z := by
  have apart : l ≠ z.heap.objs.size := by
    obtain ⟨o, e, _⟩ := b
    exact Nat.ne_of_lt (Heap.lt_size e)
  unfold unpackItems notIterableAtAll
  refine wpAny_bind (wpAny_bind (wpAny_specialOf b.typeIs slot_list_iter.lookup (wpAny_pure ?_)))
  simp only [Bool.false_eq_true, if_false]
  refine wpAny_bind (wpAny_holding (wpAny_pyIter_list b ?_))
  refine wpAny_bind (wpAny_holding (drawnL apart xs.size 0 _ _ ⟨_, Heap.get?_push_size _ rfl, rfl, rfl⟩ (b.push _) (by omega) fun g1 a1 s1 => ?_))
  rw [show (xs.toList.drop 0).take xs.size = xs.toList by rw [List.drop_zero]; exact List.take_of_length_le (by simp), if_neg (by simp)]
  refine wpAny_bind (wpAny_holding (wpAny_pyNext_list_end hh a1 ((b.push _).extBut s1.extBut apart) (by simp) fun g2 e2 => ?_))
  simp only [Option.isSome_none, Bool.false_eq_true, if_false]
  exact wpAny_pure (go g2 fun c o hc e => e2 c o hc (s1.extBut c o hc (Heap.get?_push_of_some _ e)))
end
def gLst (K : PySem.W.Frag) (n : Nat) (t : TGs) : TG := fun v σ H Q => ∃ a xs, v = .ref a ∧ SqL K H a xs ∧ xs.length = n ∧ t xs σ H Q
section
variable {X : Cx} {C : Addr} {es : List Expr} {t : TGs} {ks : List (D → M Unit)} {pos : Pos}
theorem pg_lst {k n : Nat} (hc : X.calm = true) (h : PGs X es t) (hn : (assignEach es X.env).length = n := by rfl) (hst : (assignEach es X.env).findIdx? (·.1) = none := by rfl) : PG X (.Tuple es k pos) (gLst X.K n t) := by
  refine ⟨fun pins s σ H v u Q I r hw => ?_⟩
  obtain ⟨a, xs, e1, hq, hl, hw⟩ := hw
  subst e1
  cases r
  obtain ⟨its, rv, pl, hz⟩ := I.list hq
  have il : s.heap.IsList a its.toArray := pl.isList
  rw [PyProof.Rows.assign_Tuple]
  refine wpAny_bind (wpAny_standAt ?_)
  unfold unpack
  rw [show (assignEach es X.env).length = its.toArray.size by simp [hn, ← hl, rv.length], hst]
  refine wpAny_bind (wpAny_holding (unpackedL (I.ok.hd hc) il fun g hx => ?_))
  have I1 : Inv X pins σ H { s with heap := g } := I.kept (t' := s.toks) fun b o e => hx b o (Nat.ne_of_lt (Heap.lt_size e)) e
  exact h.run pins _ σ H xs _ Q I1 (by simpa using rv) hw
def setTl (ks : List (D → M Unit)) (d : D) : M Unit := match d with
  | .lst ds => ask (ds.length = ks.length) (setKs ks ds)
  | _ => fail
theorem g_lstw {kk n : Nat} (hc : X.calm = true) (h : PGs X es (tTws (gx X C) ks)) (hl : ks.length = n) (hn : (assignEach es X.env).length = n := by rfl) (hst : (assignEach es X.env).findIdx? (·.1) = none := by rfl) :
    PG X (.Tuple es kk pos) (tTw (gx X C) (setTl ks)) := pgImp (pg_lst hc h hn hst) fun v σ H Q ⟨B, F, env, d, Qd, rel, r, hm, hq⟩ => by
  cases d with
  | lst ds =>
    obtain ⟨a, vs, e0, hF, h1, h2⟩ := r
    obtain ⟨l, hm⟩ : ds.length = ks.length ∧ setKs ks ds env (fun _ env' => Qd env') (fun _ _ => False) := hm
    exact ⟨a, vs, e0, SqL.of h1, by rw [← h2.length, l, hl], B, F, env, ds, Qd, rel, h2, hm, hq⟩
  | _ => exact (show False from hm).elim
end
end DL

set_option Elab.async false
set_option linter.all false
set_option maxRecDepth 100000
set_option maxHeartbeats 2000000
namespace DL
open PySem PySem.Spec PyProof.Rows L2
variable [Tbs]
section
variable {M : Model} {A : Around} {K : PySem.W.Frag} {E : Value → Shared → Prop} {s : Shared}
theorem underK {b : Nat} {x f C : Addr} {ox : Obj} {od : Option Obj} {Q : Str → Shared → Prop} (hb : b ≤ sizeLine) (hu : A.units < cLine) (X : K.In s.heap) (I : PySem.W.InstAt s.heap x ox C od) (hs : PySem.W.findIn K (.ref C) "__repr__" = some (some (.ref f))) (hf : PySem.W.isFn K (.ref f) = true)
    (h : wpAny M A (call (.ref f) [.ref x]) (fun v s' => ∃ y u, v = .str y u ∧ Q y s') E s) : wpAny M A (pyReprUnder b (.ref x)) Q E s := by
  refine wpAny_pyReprUnder_ref hb ?_
  unfold pyReprObjUnder pyReprObjBy
  refine wpAny_bind (wpAny_cRoomFor hu ?_)
  refine wpAny_bind (wpAny_bind (I.type.here ((PySem.W.looks_findIn X hs).here ?_)))
  show wpAny _ _ (if (some (Value.ref f)).isNone = true then _ else _) _ _ _
  rw [if_neg (by simp)]
  refine wpAny_bind (m := callSpecialIfBoundBy? _ (.ref x) (Str.ofString "__repr__")) ?_
  simp only [callSpecialIfBoundBy?, bindSpecialIfBound?]
  refine wpAny_holding (wpAny_bind (wpAny_bind (wpAny_bind (I.type.here ((PySem.W.looks_findIn X hs).here ?_)))))
  refine wpAny_bind (wpAny_askSetting (wpAny_ite ?_))
  have back : ∀ v s', (∃ y u, v = Value.str y u ∧ Q y s') → wpAny M A (do if ← isInstance v (.type "str") then pure v else raiseError "TypeError" s!"__repr__ returned non-string (type {← typeNameOf v})") (fun v s' => ∃ x u, v = .str x u ∧ Q x s') E s' := by
    rintro v s' ⟨y, u, e, q⟩
    subst e
    exact wpAny_bind (wpAny_isInstance (T := "str") (b := true) rfl isSubtype_str_str (wpAny_pure ⟨_, _, rfl, q⟩))
  have fin : wpAny M A (call (.ref f) ([.ref x] ++ []) >>= fun v => pure (some v)) (fun r s' => wpAny M A (match r with | some r => (do if ← isInstance r (.type "str") then pure r else raiseError "TypeError" s!"__repr__ returned non-string (type {← typeNameOf r})") | none => unsupported "repr:special-get-raises") (fun v s' => ∃ x u, v = .str x u ∧ Q x s') E s') E s :=
    wpAny_bind (wpAny_mono h (fun v s' h' => wpAny_pure (back v s' h')) fun _ _ h' => h')
  split
  · exact wpAny_bind ((PySem.W.bind_fn X _ (beq_iff_eq.mp hf)).here (wpAny_pure (by exact fin)))
  · exact wpAny_tryCatch (wpAny_bind ((PySem.W.bind_fn X _ (beq_iff_eq.mp hf)).here (wpAny_pure (by exact fin))))
end
section
variable {X : Cx} {C : Addr} {pins : List (Addr × Obj)} {σ : L2.St} {H : Hp} {s : Shared} {B F : Addr → Prop} {env : List Slot} {A : Around} {E : Value → Shared → Prop} {Q : Str → Shared → Prop} {u : Value} {v : V} {base : Nat}
/-- what comes behind the showing of a part -/
abbrev Onw (X : Cx) (C : Addr) (pins : List (Addr × Obj)) (σ : L2.St) (B F : Addr → Prop) (env : List Slot) (H : Hp) (t : Str) (Q : Str → Shared → Prop) : Prop := ∀ s' H' F', Stp B F H F' H' → Rel (gx X C) B F' σ env H' → Inv X pins σ H' s' → Q t s'
theorem hall_under {kk : Nat} {f : Addr} {fd : FuncData} {ps : List Str} {df : DF} {g sp : Int} {t : Str} (Fo : FnOk X.prog X.w X.K X.mg X.base (L2N.CX X.prog X.w) kk f fd ps (spD (gx X C) 1 df)) (hm : Meth X.K C "__repr__" f) (hb : Binds X.K fd ps []) (hn : 1 = ps.length)
    (hr : Room kk A) (hf : A.frames = X.A.frames) (hz : base ≤ sizeLine) (rel : Rel (gx X C) B F σ env H) (I : Inv X pins σ H s) (r : Rp (gx X C) F H (.hall g sp) v) (ru : RelV v u) (hp : ∀ Q E, df [.im (.hall g sp)] Q E = Q (.d (.str t)) [.im (.hall g sp)])
    (go : Onw X C pins σ B F env H t Q) : wpAny (model X.prog X.w) A (pyReprUnder base u) Q E s := by
  obtain ⟨a, dx, ea, hF, h1⟩ := id r
  subst ea
  obtain rfl : u = Value.ref a := ru
  obtain ⟨mA, O, _⟩ := ins_get I.hok h1
  obtain ⟨od, J, _⟩ := O.look
  refine underK hz hr.units0 I.kIn J hm.at_ hm.fn ?_
  have hb' := hb s [.ref a] I.kIn (by rw [List.append_nil]; exact hn)
  rw [List.append_nil] at hb'
  have e1 : Env0 X.prog X.w X.K X.mg X.base A X.stack s H := let e := I.env0; ⟨hf.trans e.frames, e.mod, e.bs, e.bsz, e.funs, e.frf, e.hok, e.bare⟩
  have pc : Pt (gx X C) WN (RRs (gx X C)) σ H (fun v H' => ∃ F', v = .str t ∧ Stp B F H F' H' ∧ Rel (gx X C) B F' σ env H') (callD df [.hall g sp]) B F env := by
    refine ⟨fun r env' => r = .d (.str t) ∧ env' = env, fun _ _ => False, rel, ?_, ?_, fun _ _ _ _ _ _ z => z.elim⟩
    · show df [.im (.hall g sp)] _ _
      rw [hp]
      exact ⟨rfl, rfl⟩
    · rintro rr env' b F' H' ⟨er, ee⟩ st rl rb
      subst er ee
      exact ⟨F', rb, st, rl⟩
  refine wpAny_call (codeAny_mono (Fo.run A X.stack s H ⟨[.ref a], []⟩ [.ref a] [.ref a] _ (WE WN σ) hr e1 hb' (.cons rfl .nil) (Pt.callD (vs := [.ref a]) pc ⟨_, [], rfl, r, rfl⟩ rfl)) fun rr s' hq => ?_)
  match rr, hq with
  | .error ex, hq =>
    obtain ⟨_, _, _, _, _, _, _, _, _, _, _, _, no⟩ := hq
    exact (show False from no).elim
  | .ok (.ret w), hq =>
    obtain ⟨v, H2, I2, rv, F', ev, st, rl⟩ := I.after hq
    subst ev
    obtain ⟨t', rfl⟩ := rv
    exact ⟨t, t', rfl, go _ H2 F' st rl I2⟩
  | .ok .next, hq => exact hq.elim
  | .ok .brk, hq => exact hq.elim
  | .ok .cont, hq => exact hq.elim
theorem no_reads {h : Heap} {a C : Addr} {o : Obj} (e : h.get? a = some o) (c : o.cls = .ref C) : ∀ d as, ¬ Reads h (.ref a) d as := by
  intro d as r
  cases r with
  | list e2 c2 _ _ => rw [e] at e2; cases e2; rw [c] at c2; cases c2
  | tuple e2 c2 _ _ => rw [e] at e2; cases e2; rw [c] at c2; cases c2
  | dict e2 c2 _ _ _ => rw [e] at e2; cases e2; rw [c] at c2; cases c2
theorem none_of_all {h : Heap} {u : Value} (no : ∀ d as, ¬ Reads h u d as) : ∀ {us : List Value} {ds : List PyData} {as : List Addr}, ReadsAll h us ds as → u ∉ us
  | _, _, _, .nil => List.not_mem_nil
  | _, _, _, .cons r rs => fun m => by
    rcases List.mem_cons.mp m with e | m
    · subst e; exact no _ _ r
    · exact none_of_all no rs m
theorem no_reads_list {h : Heap} {a : Addr} {o : Obj} {us : Array Value} {n : Nat} (e : h.get? a = some o) (c : o.cls = .type "list") (d0 : o.data = .seq us n) {u : Value} (hu : u ∈ us.toList) (no : ∀ d as, ¬ Reads h u d as) : ∀ d as, ¬ Reads h (.ref a) d as := by
  intro d as r
  cases r with
  | list e2 _ d2 rs =>
    rw [e] at e2; cases e2
    rw [d0] at d2; cases d2
    exact none_of_all no rs hu
  | tuple e2 c2 _ _ => rw [e] at e2; cases e2; rw [c] at c2; injection c2 with z; exact absurd z (by decide)
  | dict e2 c2 _ _ _ => rw [e] at e2; cases e2; rw [c] at c2; injection c2 with z; exact absurd z (by decide)
/-- a part of a built-in kind; p is being shown, and holds what can't be read -/
theorem data_under {d : D} {p : Addr} {id : String} {rest : List Value} {kw : List (Str × Value)} (hg : A.guards = some [.builtin id ⟨.ref p :: rest, kw⟩]) (ok : pyOk d = true ∨ okD d = true) (sh : (pyE d).showable = true) (dp : (pyE d).depth ≤ 64) (hu : A.units + 64 < cLine) (hz : base + (pyE d).shown.length ≤ sizeLine)
    (nm : ∀ bs, ReadAtMost s.heap (pyE d).depth bs → p ∉ bs) (rel : Rel (gx X C) B F σ env H) (I : Inv X pins σ H s) (r : Rp (gx X C) F H d v) (ru : RelV v u) (go : Onw X C pins σ B F env H (pyE d).shown Q) : wpAny (model X.prog X.w) A (pyReprUnder base u) Q E s := by
  obtain ⟨as, rd, n⟩ := el_reads (C := C) I r ok ru
  obtain ⟨bs, am, k⟩ := ReprK.of_reads (prog := X.prog) (w := X.w) rd sh n (by omega)
  refine k base hz A _ E s Q hg (fun b hb => (Clear.nil b).cons fun e => ?_) (by omega) (fun b o e => e) fun h' tk kp => go _ H F Stp.refl rel (I.kept kp)
  subst e
  exact nm bs am hb
def isHallD : D → Bool
  | .hall _ _ => true
  | _ => false
theorem isHall_at {d : D} (h : isHallD d = true) : ∃ g sp, d = .hall g sp := by
  cases d with
  | hall g sp => exact ⟨g, sp, rfl⟩
  | _ => cases h
/-- a list of Halls alone -/
def hallsD : D → Bool
  | .lst (d :: ds) => isHallD d && ds.all isHallD
  | _ => false
theorem halls_ne {a : Addr} {d : D} {v : V} {vs : List V} (hh : hallsD d = true) (rd : Rp (gx X C) F H d v) (ea : H a = some (.lst vs)) (hv : v ∈ vs) : v ≠ .ref a := by
  intro e
  cases d with
  | lst es =>
    cases es with
    | nil => cases hh
    | cons e0 es =>
      have hh : (isHallD e0 && es.all isHallD) = true := hh
      obtain ⟨q, ws, eq, hF, h1, h2⟩ := id rd
      rw [e] at eq
      cases eq
      rw [ea] at h1
      cases h1
      obtain ⟨m, hm⟩ := List.mem_iff_getElem?.mp hv
      obtain ⟨x, hx, rx⟩ := rp_at h2 hm
      have xh : isHallD x = true := by
        rw [Bool.and_eq_true] at hh
        rcases List.mem_cons.mp (List.mem_of_getElem? hx) with z | z
        · rw [z]; exact hh.1
        · exact List.all_eq_true.mp hh.2 x z
      obtain ⟨g, sp, ex⟩ := isHall_at xh
      subst ex
      obtain ⟨q2, dx, eq2, _, h3⟩ := rx
      rw [e] at eq2
      cases eq2
      rw [ea] at h3
      cases h3
  | _ => cases hh
/-- the showing of one part of the list at a -/
def PartOk (X : Cx) (C : Addr) (pins : List (Addr × Obj)) (σ : L2.St) (a : Addr) (M : Nat) (A : Around) (d : D) (t : Str) : Prop :=
  ∀ (base : Nat) (B F : Addr → Prop) (env : List Slot) (H : Hp) (s : Shared) (u : Value) (v : V) (E : Value → Shared → Prop) (Q : Str → Shared → Prop), base + t.length ≤ sizeLine → (∀ n bs, n ≤ M → ReadAtMost s.heap n bs → a ∉ bs) → (hallsD d = true → v ≠ .ref a) → Rel (gx X C) B F σ env H → Inv X pins σ H s → Rp (gx X C) F H d v → RelV v u →
    Onw X C pins σ B F env H t Q → wpAny (model X.prog X.w) A (pyReprUnder base u) Q E s
theorem strs_of : ∀ {xs : List Str} {us : List Value}, Vals (xs.map V.str) us → ∃ l : List (Str × Tok), us = strValues l ∧ l.map (·.1) = xs
  | [], _, r => by cases r; exact ⟨[], rfl, rfl⟩
  | x :: xs, _, r => by
    cases r with
    | cons r1 r2 =>
      obtain ⟨l, e1, e2⟩ := strs_of (xs := xs) r2
      obtain ⟨t, e⟩ := r1
      exact ⟨(x, t) :: l, by rw [e, e1]; rfl, by rw [List.map_cons, e2]⟩
theorem lst_look {a : Addr} {vs : List V} (I : Inv X pins σ H s) (e : H a = some (.lst vs)) : vs.length ≤ sizeLine ∧ ∃ (us : List Value) (n : Nat), Vals vs us ∧ s.heap.get? a = some { cls := .type "list", data := .seq us.toArray n } := by
  obtain ⟨z, us, n, r, q⟩ := I.hok a _ e
  exact ⟨z, us, n, r, q⟩
abbrev loopC (a P : Addr) (i n : Int) : Code := .builtin "list.__repr__.loop" ⟨[.ref a, .int i 0, .ref P, .int n 0], []⟩
theorem loopH {a P : Addr} {ds : List D} {vs : List V} {ts : List Str} {A : Around} {base M : Nat} {R : Result → Shared → Prop} (hl : ts.length = ds.length)
    (el : ∀ (i n : Int) (j : Nat) d t, ds[j]? = some d → ts[j]? = some t → PartOk X C pins σ a M (A.under (loopC a P i n)) d t) (nm : ∀ (F : Addr → Prop) (H : Hp) (s : Shared) (us : List Value) (m : Nat), Inv X pins σ H s → RpL (gx X C) F H ds vs → Vals vs us → s.heap.get? a = some { cls := .type "list", data := .seq us.toArray m } → ∀ n bs, n ≤ M → ReadAtMost s.heap n bs → a ∉ bs) (fit : base + (listText ts).length ≤ sizeLine) (aP : a ≠ P) :
    ∀ (k i : Nat) (B F : Addr → Prop) (env : List Slot) (H : Hp) (s : Shared), ds.length - i = k → i ≤ ds.length → Rel (gx X C) B F σ env H → Inv X pins σ H s → B a → H a = some (.lst vs) → RpL (gx X C) F H ds vs →
      H P = some (.lst ((ts.take i).map V.str)) → ¬ B P → ¬ F P → (∀ j, ¬ OwnAt env σ j P) → (∀ s' H' F' u, Stp B F H F' H' → Rel (gx X C) B F' σ env H' → Inv X pins σ H' s' → R (.ok (.ret (.str (listText ts) u))) s') →
      codeAny (model X.prog X.w) A (loopC a P i ((base + piled (ts.take i) : Nat) : Int)) R s := by
  have z1 : (listText ts).length = (textFrom 0 "[" ts).length + 1 := (strLen_append (textFrom 0 "[" ts) "]").trans rfl
  have z2 := textFrom_len ts 0 "["
  have z3 : ∀ t ∈ ts, t.length ≤ sizeLine := fun t ht => by have := z2.2.1 t ht; omega
  have z4 := piled_le_listText ts
  intro k
  induction k with
  | zero =>
    intro i B F env H s ek li rel I hBa ea ra eP nB nF nO go
    have ei : i = ds.length := by omega
    obtain ⟨_, us, n, rv, la⟩ := lst_look I ea
    obtain ⟨_, ps, m, rp, lp⟩ := lst_look I eP
    obtain ⟨l, e1, e2⟩ := strs_of rp
    apply codeAny_builtin PySem.F.entry_list_repr_loop
    show wpAny _ _ (Builtin.«list.__repr__.loop» ⟨[.ref a, .int i 0, .ref P, .int ((base + piled (ts.take i) : Nat) : Int) 0], []⟩) _ _ s
    rw [PySem.repr_loop_tree]
    refine wpAny_bind (m := Builtin.List.listItems (.ref a)) (wpAny_listItems la rfl ?_)
    have ln : us.length = ds.length := by rw [← rv.length, ra.length]
    have no : us.toArray[(i : Int).toNat]? = none := by simp [ei, ln]
    simp only [no]
    unfold reprEnd
    refine wpAny_bind (m := Builtin.List.listItems (.ref P)) (wpAny_listItems lp rfl ?_)
    rw [show ps.toArray.toList = strValues l by rw [e1], repr_fold]
    refine wpAny_bind (m := pure _) (wpAny_pure ?_)
    rw [show l.map (·.1) = ts by rw [e2, ei, ← hl, List.take_length]]
    exact wpAny_bind (m := mkStr _) (wpAny_mkStr (wpAny_pure (go _ H F _ Stp.refl rel (I.tok _))) (show (listText ts).length ≤ sizeLine by omega))
  | succ k ih =>
    intro i B F env H s ek li rel I hBa ea ra eP nB nF nO go
    have lt : i < ds.length := by omega
    obtain ⟨_, us, n, rv, la⟩ := lst_look I ea
    obtain ⟨v, hv, rd⟩ := ra.get (List.getElem?_eq_getElem lt)
    obtain ⟨u, hu, ru⟩ := rv.get hv
    have ht : ts[i]? = some ts[i] := List.getElem?_eq_getElem (by omega)
    have p1 := piled_take_succ ht
    have p2 := piled_take_le ts (i + 1)
    have no := nm F H s us n I ra rv la
    apply codeAny_builtin PySem.F.entry_list_repr_loop
    show wpAny _ _ (Builtin.«list.__repr__.loop» ⟨[.ref a, .int i 0, .ref P, .int ((base + piled (ts.take i) : Nat) : Int) 0], []⟩) _ _ s
    rw [PySem.repr_loop_tree]
    refine wpAny_bind (m := Builtin.List.listItems (.ref a)) (wpAny_listItems la rfl ?_)
    have so : us.toArray[(i : Int).toNat]? = some u := by simpa using hu
    simp only [so]
    rw [Int.toNat_natCast]
    have relP := rel.more (p := P) ⟨by rw [eP]; exact nofun, fun ps z => by rw [eP] at z; cases z⟩ nO
    refine wpAny_bind (wpAny_holding (el i _ i _ _ (List.getElem?_eq_getElem lt) ht (base + piled (ts.take i) + 1) _ F env H s u v _ _ (by omega) no (fun hh => halls_ne hh rd ea (List.mem_of_getElem? hv)) relP I rd ru fun s1 H1 F1 st1 rel1 I1 => ?_))
    refine wpAny_bind (m := mkStr _) (wpAny_mkStr ?_ (z3 _ (List.getElem_mem _)))
    have st := st1.less (B := B) fun _ z => .inl z
    have eP1 : H1 P = some (.lst ((ts.take i).map V.str)) := st1.hk P _ (.inl (.inr rfl)) eP
    have ea1 : H1 a = some (.lst vs) := st.hk a _ (.inl hBa) ea
    have nF1 : ¬ F1 P := fun z => (st1.fn P z).elim nF fun n => n (.inr rfl)
    obtain ⟨zp, ps, m, rp, lp⟩ := lst_look (I1.tok (s1.toks + 1)) eP1
    have lz : ps.length ≤ i := by
      have e1 := rp.length
      rw [List.length_map, List.length_take] at e1
      omega
    have iz : ds.length ≤ sizeLine := by
      have h1 := z2.1
      rw [if_neg (Nat.lt_irrefl 0)] at h1
      omega
    refine wpAny_bind (m := Builtin.List.listUpdate (.ref P) _) ?_
    show wpAny _ _ (updateSeq P _) _ _ _
    refine wpAny_updateSeq lp rfl (wpAny_pure ⟨PySem.F.quiet_list_repr_loop _, ?_⟩) (by rw [List.size_toArray]; omega)
    have tk1 : (ts.take (i + 1)).map V.str = (ts.take i).map V.str ++ [V.str ts[i]] := by rw [List.take_add_one, ht, List.map_append]; rfl
    have own : Stp B F1 H1 F1 (upd H1 P (.lst ((ts.take (i + 1)).map V.str))) := stp_own nF1 nB (fun vs z => by rcases z with z | ⟨_, z⟩ <;> rw [eP1] at z <;> cases z) (fun ps z => by rw [eP1] at z; cases z) (fun q z => by rw [eP1] at z; cases z)
    have rel2 : Rel (gx X C) B F1 σ env (upd H1 P (.lst ((ts.take (i + 1)).map V.str))) := (rel1.less (B := B) fun _ z => .inl z).step own (fun j b o => ⟨upd_ne fun z => nO j (z ▸ o), (rel1.ownSome o).2.1⟩) fun b z => by
      have := rel1.hF b z
      have nb : b ≠ P := by intro w; rw [w] at z; exact nF1 z
      unfold Nt at this ⊢
      rw [upd_ne nb]
      exact this
    have I2 := (I1.tok (s1.toks + 1)).write (t' := s1.toks + 1) (h' := s1.heap.update P (Obj.mapSeq fun q => q.push (.str ts[i] s1.toks))) (x := P) (e := P) (o := .lst ((ts.take (i + 1)).map V.str)) (by rw [eP1]; trivial) (.inl rfl) (fun b o nb q => (Heap.get?_update_other _ _ (Ne.symm nb)).trans q) ⟨_, Heap.get?_update_self _ lp rfl⟩
      (by
        refine ⟨by rw [List.length_map, List.length_take]; omega, ps ++ [.str ts[i] s1.toks], (if (ps.toArray.push (Value.str ts[i] s1.toks)).size == ps.toArray.size then m else m + 1), by rw [tk1]; exact rp.append (.cons ⟨_, rfl⟩ .nil), (Heap.get?_update_self _ lp rfl).trans ?_⟩
        rw [show (ps ++ [Value.str ts[i] s1.toks]).toArray = ps.toArray.push (Value.str ts[i] s1.toks) by simp]
        rfl)
    have c1 : ((i : Int) + 1) = ((i + 1 : Nat) : Int) := by omega
    have c2 : base + piled (ts.take i) + (ts[i].length + 2) = base + piled (ts.take (i + 1)) := by omega
    rw [c1, c2]
    exact ih (i + 1) B F1 env _ _ (by omega) lt rel2 I2 hBa ((upd_ne aP).trans ea1) (RpL.mono (st.trans own) ds vs ra) upd_same nB nF1 nO fun s' H' F' u st' rl I' => go s' H' F' u ((st.trans own).trans st') rl I'
theorem under_loop (A : Around) (a P : Addr) (i n : Int) : (A.under (loopC a P i n)).depth ≤ A.depth + 1 ∧ (A.under (loopC a P i n)).frames = A.frames ∧ (A.under (loopC a P i n)).handled = A.handled := by
  refine ⟨?_, ?_, rfl⟩
  · show A.depth + (loopC a P i n).weight ≤ A.depth + 1
    have : (loopC a P i n).weight ≤ 1 := by
      first
        | decide +kernel
        | simp [Code.weight, Code.isCreation, Code.isGuard, Code.isCaller, Code.frames, Code.isFrame, guardIds]
    omega
  · show pushEnvs (loopC a P i n).envs A.frames = A.frames
    first
      | rfl
      | (cases A.frames <;> rfl)
      | (cases A.frames <;> simp [pushEnvs, Code.envs])
theorem listAtH {a : Addr} {ds : List D} {vs : List V} {ts : List Str} {A : Around} {base M : Nat} {R : Result → Shared → Prop} {gs : List Code} (hl : ts.length = ds.length) (hg : A.guards = some gs) (cl : Clear gs a)
    (el : ∀ (P : Addr) (i n : Int) (j : Nat) d t, ds[j]? = some d → ts[j]? = some t → PartOk X C pins σ a M (A.under (loopC a P i n)) d t) (pos : 0 < ds.length) (nm : ∀ (F : Addr → Prop) (H : Hp) (s : Shared) (us : List Value) (m : Nat), Inv X pins σ H s → RpL (gx X C) F H ds vs → Vals vs us → s.heap.get? a = some { cls := .type "list", data := .seq us.toArray m } → ∀ n bs, n ≤ M → ReadAtMost s.heap n bs → a ∉ bs) (fit : base + (listText ts).length ≤ sizeLine)
    (rel : Rel (gx X C) B F σ env H) (I : Inv X pins σ H s) (ea : H a = some (.lst vs)) (ra : RpL (gx X C) F H ds vs) (nO : ∀ j, ¬ OwnAt env σ j a)
    (go : ∀ s' H' F' u, Stp B F H F' H' → Rel (gx X C) B F' σ env H' → Inv X pins σ H' s' → R (.ok (.ret (.str (listText ts) u))) s') :
    wpAny (model X.prog X.w) A.in1 (Builtin.listReprAt base ⟨[.ref a], []⟩) (fun fin s' => match fin with | .done f => R (.ok f) s' | .again c' => c'.quiet = true ∧ codeAny (model X.prog X.w) A c' R s') (fun e s' => R (.error e) s') s := by
  obtain ⟨_, us, n, rv, la⟩ := lst_look I ea
  have ln : us.length = ds.length := by rw [← rv.length, ra.length]
  cases us with
  | nil => rw [List.length_nil] at ln; omega
  | cons x l =>
    refine wpAny_list_repr_head (A := A.in1) hg (fun v rest kw hm => listSameRef_of_ne (cl _ _ _ _ hm)) la rfl ?_
    have fr : H s.heap.objs.size = none := I.hok.fresh (Nat.le_refl _)
    have aP : a ≠ s.heap.objs.size := Nat.ne_of_lt (Heap.lt_size la)
    refine wpAny_bind (m := newList []) (wpAny_newObj_type (wpAny_pure ⟨PySem.F.quiet_list_repr_loop _, ?_⟩))
    have I1 : Inv X pins σ (upd H s.heap.objs.size (.lst [])) { s with heap := s.heap.push { cls := .type "list", data := .seq ([] : List Value).toArray } } := I.laid (t' := s.toks) (fun b u e => Heap.get?_push_of_some _ e) (Nat.le_refl _) ⟨Nat.zero_le _, [], 0, .nil, Heap.get?_push_size _ rfl⟩
    have new : Stp B F H F (upd H s.heap.objs.size (.lst [])) := stp_new fr
    have nO2 : ∀ j, ¬ OwnAt env σ j s.heap.objs.size := fun j o => (rel.ownSome o).1 fr
    have rel1 := (rel.new (o := .lst []) fr).more (p := a) ⟨by rw [upd_ne aP, ea]; exact nofun, fun ps z => by rw [upd_ne aP, ea] at z; cases z⟩ nO
    exact loopH (base := base) hl (el s.heap.objs.size) nm fit aP ds.length 0 (fun b => B b ∨ b = a) F env _ _ (by omega) (Nat.zero_le _) rel1 I1 (.inr rfl) ((upd_ne aP).trans ea) (RpL.mono new ds vs ra) upd_same (fun z => z.elim (rel.notB fr) fun w => aP w.symm) (rel.notF fr) nO2
      fun s' H' F' u st' rl I' => go s' H' F' u (new.trans (st'.less fun _ z => .inl z)) (rl.less fun _ z => .inl z) I'
end
section
variable {X : Cx} {C : Addr} {pins : List (Addr × Obj)} {σ : L2.St}
/-! ### repr of lists that hold Halls, lists of such, data -/
def hallRt (g s : Int) : Str := ((((Str.empty ++ ("Hall(" : Str)) ++ ((toString g : String) : Str)) ++ (", spare=" : Str)) ++ ((toString s : String) : Str)) ++ (")" : Str)
def hallT1 : D → Str
  | .hall g s => hallRt g s
  | _ => Str.empty
def partT : D → Str
  | .hall g s => hallRt g s
  | .lst (d :: ds) => if hallsD (.lst (d :: ds)) = true then listText ((d :: ds).map hallT1) else (pyE (.lst (d :: ds))).shown
  | d => (pyE d).shown
def HallOk (df : DF) (d : D) : Prop := ∃ g sp, d = .hall g sp ∧ ∀ Q E, df [.im (.hall g sp)] Q E = Q (.d (.str (hallRt g sp))) [.im (.hall g sp)]
def DataOk (d : D) : Prop := (pyOk d = true ∨ okD d = true) ∧ (pyE d).showable = true ∧ (pyE d).depth ≤ 64
def PartA (df : DF) (d : D) : Prop := HallOk df d ∨ (hallsD d = true ∧ ∃ ds, d = .lst ds ∧ ∀ e ∈ ds, HallOk df e) ∨ (isHallD d = false ∧ hallsD d = false ∧ DataOk d)
def reprH (df : DF) (d : D) : M D := match d with
  | .lst (d :: ds) => ask ((∀ e ∈ d :: ds, PartA df e) ∧ (listText ((d :: ds).map partT)).length ≤ sizeLine) (ret (.str (listText ((d :: ds).map partT))))
  | d => reprX df d
theorem no_reads_hall {F : Addr → Prop} {H : Hp} {s : Shared} {g sp : Int} {w : V} {x : Value} (I : Inv X pins σ H s) (rw' : Rp (gx X C) F H (.hall g sp) w) (rx : RelV w x) : ∀ d as, ¬ Reads s.heap x d as := by
  obtain ⟨q, dx, eq, hF, h1⟩ := rw'
  subst eq
  obtain rfl : x = Value.ref q := rx
  obtain ⟨_, O, _⟩ := ins_get I.hok h1
  obtain ⟨od, J, _⟩ := O.look
  exact no_reads J.at_ J.cls
theorem not_in {h : Heap} {a : Addr} (no : ∀ d as, ¬ Reads h (.ref a) d as) {n : Nat} {bs : List Addr} (am : ReadAtMost h n bs) : a ∉ bs := fun m =>
  let ⟨_, _, r, _⟩ := am a m; no _ _ r
theorem reads_all {F : Addr → Prop} {H : Hp} {s : Shared} (I : Inv X pins σ H s) : ∀ {ds : List D} {vs : List V} {us : List Value}, RpL (gx X C) F H ds vs → (∀ d ∈ ds, pyOk d = true ∨ okD d = true) → Vals vs us → ∃ as, ReadsAll s.heap us (pyEL ds) as
  | [], _, _, h, _, r => by cases (show _ = _ from h); cases r; exact ⟨[], .nil⟩
  | d :: ds, _, _, ⟨v, vs, e, h1, h2⟩, ok, r => by
    subst e
    cases r with
    | cons r1 r2 =>
      obtain ⟨as, q1, _⟩ := el_reads (C := C) I h1 (ok d List.mem_cons_self) r1
      obtain ⟨bs, q2⟩ := reads_all I h2 (fun e he => ok e (List.mem_cons_of_mem _ he)) r2
      exact ⟨_, .cons q1 q2⟩
theorem depth_mem : ∀ {ds : List D} {d : D}, d ∈ ds → (pyE d).depth ≤ PyData.depthAll (pyEL ds)
  | e :: ds, d, h => by
    show _ ≤ max (pyE e).depth (PyData.depthAll (pyEL ds))
    rcases List.mem_cons.mp h with z | z
    · subst z; exact Nat.le_max_left _ _
    · exact Nat.le_trans (depth_mem z) (Nat.le_max_right _ _)
/-- what is shown is behind nothing that is read in its parts -/
theorem apart_of {a : Addr} {df : DF} {ds : List D} {vs : List V} (parts : ∀ d ∈ ds, PartA df d) : ∀ (F : Addr → Prop) (H : Hp) (s : Shared) (us : List Value) (m : Nat), Inv X pins σ H s → RpL (gx X C) F H ds vs → Vals vs us → s.heap.get? a = some { cls := .type "list", data := .seq us.toArray m } →
    ∀ n bs, n ≤ PyData.depthAll (pyEL ds) → ReadAtMost s.heap n bs → a ∉ bs := by
  intro F H s us m I ra rv la n bs hn am
  by_cases all : ∀ d ∈ ds, pyOk d = true ∨ okD d = true
  · obtain ⟨as, ra'⟩ := reads_all I ra all rv
    exact not_mem_of_deeper (.list la rfl rfl (by simpa using ra')) (show n < PyData.depthAll (pyEL ds) + 1 by omega) am
  · obtain ⟨d, hd, nd⟩ : ∃ d, d ∈ ds ∧ ¬ (pyOk d = true ∨ okD d = true) := by
      refine Classical.byContradiction fun z => all fun d hd => Classical.byContradiction fun w => z ⟨d, hd, w⟩
    obtain ⟨j, hj⟩ := List.mem_iff_getElem?.mp hd
    obtain ⟨w, hw, rw'⟩ := ra.get hj
    obtain ⟨x, hx, rx⟩ := rv.get hw
    have nx : ∀ d as, ¬ Reads s.heap x d as := by
      rcases parts d hd with ⟨g, sp, e, _⟩ | ⟨hh, es, e, he⟩ | ⟨_, _, k, _⟩
      · subst e; exact no_reads_hall I rw' rx
      · subst e
        cases es with
        | nil => cases hh
        | cons e0 es =>
          obtain ⟨g, sp, e, _⟩ := he e0 List.mem_cons_self
          subst e
          obtain ⟨q, ws, eq, hF, h1, h2⟩ := rw'
          subst eq
          obtain rfl : x = Value.ref q := rx
          obtain ⟨_, zs, k, rz, lq⟩ := lst_look I h1
          obtain ⟨w0, hw0, r0⟩ := h2.get (show (D.hall g sp :: es)[0]? = some (.hall g sp) from rfl)
          obtain ⟨x0, hx0, rx0⟩ := rz.get hw0
          exact no_reads_list lq rfl rfl (u := x0) (List.mem_of_getElem? hx0) (no_reads_hall I r0 rx0)
      · exact absurd k nd
    exact not_in (no_reads_list la rfl rfl (u := x) (List.mem_of_getElem? hx) nx) am
section
variable {W : WX} {md : M D} {o : Expr} {pos p : Pos} {kk : Nat} {f : Addr} {fd : FuncData} {ps : List Str} {df : DF}
theorem hall_part {a : Addr} {M : Nat} {A : Around} {d : D} (Fo : FnOk X.prog X.w X.K X.mg X.base (L2N.CX X.prog X.w) kk f fd ps (spD (gx X C) 1 df)) (hm : Meth X.K C "__repr__" f) (hb : Binds X.K fd ps []) (hn : 1 = ps.length) (hr : Room kk A) (hf : A.frames = X.A.frames) (h : HallOk df d) : PartOk X C pins σ a M A d (hallT1 d) := by
  intro base B F env H s u v E Q hz no na rel I r ru go
  obtain ⟨g, sp, e, hp⟩ := h
  subst e
  exact hall_under Fo hm hb hn hr hf (by omega) rel I r ru hp go
theorem part_at {a P : Addr} {M : Nat} {i n : Int} {d : D} (Fo : FnOk X.prog X.w X.K X.mg X.base (L2N.CX X.prog X.w) kk f fd ps (spD (gx X C) 1 df)) (hr : Room (kk + 2) X.A) (hG : X.A.guards = some []) (hm : Meth X.K C "__repr__" f) (hb : Binds X.K fd ps []) (hn : 1 = ps.length) (h : PartA df d) (hM : (pyE d).depth ≤ M) :
    PartOk X C pins σ a M (X.A.in1.under (loopC a P i n)) d (partT d) := by
  obtain ⟨u1, u2, u3⟩ := under_loop X.A.in1 a P i n
  have un : (X.A.in1.under (loopC a P i n)).units = X.A.units + 1 + 1 := units_under_list_loop _ _
  have gd : (X.A.in1.under (loopC a P i n)).guards = some [loopC a P i n] := guards_under_guard (isGuard_list_loop _) hG
  have d1 : X.A.in1.depth = X.A.depth := rfl
  have rm : Room kk (X.A.in1.under (loopC a P i n)) := ⟨u3.trans hr.hd, by have := hr.dp; omega, by have := hr.un; omega⟩
  rcases h with ho | ⟨hh, es, e, he⟩ | ⟨n1, n2, ok, sh, dp⟩
  · have e : partT d = hallT1 d := by obtain ⟨g, sp, e, _⟩ := ho; subst e; rfl
    rw [e]
    exact hall_part Fo hm hb hn rm u2 ho
  · subst e
    cases es with
    | nil => cases hh
    | cons e0 es =>
      have e : partT (.lst (e0 :: es)) = listText ((e0 :: es).map hallT1) := if_pos hh
      rw [e]
      intro base B F env H s u v E Q hz nm na rel I r ru go
      obtain ⟨q, ws, eq, hF, h1, h2⟩ := id r
      subst eq
      obtain rfl : u = Value.ref q := ru
      obtain ⟨_, zs, k, rz, lq⟩ := lst_look I h1
      have nO : ∀ j, ¬ OwnAt env σ j q := fun j w => (rel.ownSome w).2.1 hF
      obtain ⟨g, sp, e, _⟩ := he e0 List.mem_cons_self
      subst e
      have nq : ∀ (F : Addr → Prop) (H : Hp) (s : Shared) (us : List Value) (m : Nat), Inv X pins σ H s → RpL (gx X C) F H (.hall g sp :: es) ws → Vals ws us → s.heap.get? q = some { cls := .type "list", data := .seq us.toArray m } → ∀ n bs, n ≤ 0 → ReadAtMost s.heap n bs → q ∉ bs := by
        intro F H s us m I ra rv la n bs _ am
        obtain ⟨w0, hw0, r0⟩ := ra.get (show (D.hall g sp :: es)[0]? = some (.hall g sp) from rfl)
        obtain ⟨x0, hx0, rx0⟩ := rv.get hw0
        exact not_in (no_reads_list la rfl rfl (u := x0) (List.mem_of_getElem? hx0) (no_reads_hall I r0 rx0)) am
      have ne : a ≠ q := fun z => na hh (by rw [z])
      refine wpAny_pyReprUnder_ref (by omega) (wpAny_pyReprObjUnder_twin (twin := "list.__repr__.under") ⟨_, lq, rfl⟩ PySem.F.slot_list_repr.toG rfl (by have := hr.un; omega) (call_twin_plain PySem.F.plain_list_repr_under PySem.F.entry_list_repr_under PySem.F.check_list_repr_under ⟨_, lq, rfl⟩ PySem.F.slot_list_repr.toG (PySem.F.args_list_repr_1 _)
        (listAtH (A := X.A.in1.under (loopC a P i n)) (base := base) (M := 0) (ts := (D.hall g sp :: es).map hallT1) (R := callEnd _ _) (by rw [List.length_map]) gd ((Clear.nil q).cons ne) (fun P2 i2 n2 j d t hd ht => ?_) (by rw [List.length_cons]; omega) nq hz rel I h1 h2 nO fun s' H' F' u st rl I' => ⟨⟨_, _, rfl⟩, _, u, rfl, go s' H' F' st rl I'⟩)))
      rw [List.getElem?_map, hd] at ht
      cases ht
      obtain ⟨v1, v2, v3⟩ := under_loop (X.A.in1.under (loopC a P i n)) q P2 i2 n2
      have vn : ((X.A.in1.under (loopC a P i n)).under (loopC q P2 i2 n2)).units = X.A.units + 1 + 1 + 1 := (units_under_list_loop _ _).trans (by rw [un])
      exact hall_part Fo hm hb hn ⟨v3.trans rm.hd, by have := hr.dp; omega, by have := hr.un; omega⟩ (v2.trans u2) (he d (List.mem_of_getElem? hd))
  · have e : partT d = (pyE d).shown := by
      cases d with
      | hall g sp => cases n1
      | lst es =>
        cases es with
        | nil => rfl
        | cons e es => exact if_neg (by rw [n2]; exact Bool.false_ne_true)
      | _ => rfl
    rw [e]
    intro base B F env H s u v E Q hz nm na rel I r ru go
    exact data_under gd ok sh dp (by have := hr.un; omega) hz (fun bs am => nm _ bs hM am) rel I r ru go
theorem e_repH (hk : HallK X.K C) (Fn : FnG X.prog X.w X.K X.mg X.base kk f fd ps (spD (gx X C) 1 df)) (Fo : FnOk X.prog X.w X.K X.mg X.base (L2N.CX X.prog X.w) kk f fd ps (spD (gx X C) 1 df)) (hr0 : Room (kk + 4) X.A) (hG : X.A.guards = some []) (tk : L2N.Takes X W) (hm : Meth X.K C "__repr__" f) (hb : Binds X.K fd ps []) (hn : 1 = ps.length)
    (hg : Gl X "repr") (hmg : X.mg "repr" = none) (he : PE X o (tD (gx X C) W md)) (na : starEach [o] X.env = (false, eval o X.env) :: starEach [] X.env := by rfl) (hpl : (backTo pos (starEach [] X.env)).any (·.1) = false := by rfl) :
    PE X (.Call (.Name "repr" p) [o] [] pos) (tD (gx X C) W (bnd md (reprH df))) := by
  refine ⟨fun pins s σ H Q I h => ?_⟩
  refine Call_ (ld_blt I hg hmg boot_repr (PyProof.Rows.callWith_builtin1 (one_arg he I (lift1 (Ra := RD (gx X C)) h) (fun u s1 v H1 I1 ru ⟨B, F, env, d, q, rd⟩ => ?_) na) na hpl))
  have hr : Room (kk + 1) X.A := hr0.mono (by omega)
  by_cases y : ∃ d0 ds0, d = .lst (d0 :: ds0)
  · obtain ⟨d0, ds0, e⟩ := y
    subst e
    generalize hds : d0 :: ds0 = ds at rd
    have q : Pt (gx X C) W (RD (gx X C)) σ H1 Q (ask ((∀ e ∈ ds, PartA df e) ∧ (listText (ds.map partT)).length ≤ sizeLine) (ret (.str (listText (ds.map partT))))) B F env := by rw [← hds]; exact q
    obtain ⟨⟨parts, fit⟩, q⟩ := q.asked
    obtain ⟨a, vs, ea, hF, h1, h2⟩ := id rd
    subst ea
    obtain rfl : u = Value.ref a := ru
    obtain ⟨_, us, n, rv, la⟩ := lst_look I1 h1
    obtain ⟨Qd, Ed, rel, hm1, hq, hex⟩ := q
    have nO : ∀ j, ¬ OwnAt env σ j a := fun j w => (rel.ownSome w).2.1 hF
    refine call_repr_slot (by have := hr.un; omega) ⟨_, la, rfl⟩ PySem.F.slot_list_repr.toG (wpAny_call (codeAny_call_builtin PySem.F.slot_list_repr.plain PySem.F.entry_list_repr (PySem.F.slot_list_repr.check _ _ _ _ _ _ _ _ ⟨_, la, rfl⟩ (PySem.F.args_list_repr_1 _)
      (listAtH (A := X.A.in1) (base := 0) (M := PyData.depthAll (pyEL ds)) (ts := ds.map partT) (R := callEnd _ _) (by rw [List.length_map]) hG (Clear.nil a) (fun P i n j d t hd ht => ?_) (by rw [← hds, List.length_cons]; omega) (apart_of parts) (by omega) rel I1 h1 h2 nO fun s' H' F' u st rl I' => ⟨_, u, rfl, ?_⟩))))
    · rw [List.getElem?_map, hd] at ht
      cases ht
      exact part_at Fo (hr0.mono (by omega)) hG hm hb hn (parts d (List.mem_of_getElem? hd)) (depth_mem (List.mem_of_getElem? hd))
    · exact ⟨.str _, H', I', ⟨u, rfl⟩, hq (.str (listText (ds.map partT))) env (.str _) F' H' hm1 st rl rfl⟩
  have ey : reprH df d = reprX df d := by
    cases d with
    | lst ds =>
      cases ds with
      | nil => rfl
      | cons d0 ds => exact absurd ⟨d0, ds, rfl⟩ y
    | _ => rfl
  rw [ey] at q
  by_cases z : ∃ g sp, d = .hall g sp
  · obtain ⟨g, sp, e⟩ := z
    subst e
    obtain ⟨a, dx, ea, hF, h1⟩ := id rd
    subst ea
    obtain rfl : u = Value.ref a := ru
    obtain ⟨mA, O, _⟩ := ins_get I1.hok h1
    obtain ⟨od, J, _⟩ := O.look
    have q : Pt (gx X C) W (RD (gx X C)) σ H1 Q (bnd (callD df [.hall g sp]) strR) B F env := q
    obtain ⟨mF, FF⟩ := I1.fr
    refine PySem.W.repr_K (by have := hr.un; show X.A.units + 1 < _; omega) FF I1.mod.kin J hm.at_ hm.fn ?_
    have hb' := hb s1 [.ref a] I1.kIn (by rw [List.append_nil]; exact hn)
    rw [List.append_nil] at hb'
    have pc := (q.bindP (Ra := RRs (gx X C)) (as := []) (xs := []) rfl).imp fun v H2 ⟨F2, env2, r2, p2, _, rr2⟩ => p2.strR rr2
    have e1 : Env0 X.prog X.w X.K X.mg X.base X.A.in1 X.stack s1 H1 := let e := I1.env0; ⟨e.frames, e.mod, e.bs, e.bsz, e.funs, e.frf, e.hok, e.bare⟩
    refine wpAny_call (codeAny_mono (Fn.run X.A.in1 X.stack s1 H1 ⟨[.ref a], []⟩ [.ref a] [.ref a] _ (WE W σ) hr.in1 hG e1 hb' (.cons rfl .nil) (Pt.callD (vs := [.ref a]) pc ⟨_, [], rfl, rd, rfl⟩ rfl)) fun rr s' hq => ?_)
    match rr, hq with
    | .error ex, hq => exact L2N.passAt tk σ pins H1 s1 ex s' I1 hq
    | .ok (.ret w), hq =>
      obtain ⟨v, H2, I2, rv, y, ev, qq⟩ := I1.after hq
      subst ev
      obtain ⟨t, rfl⟩ := rv
      exact ⟨.str y, H2, I2, ⟨t, rfl⟩, qq⟩
    | .ok .next, hq => exact hq.elim
    | .ok .brk, hq => exact hq.elim
    | .ok .cont, hq => exact hq.elim
  · have e : reprX df d = reprE d := by
      cases d with
      | hall g sp => exact (z ⟨g, sp, rfl⟩).elim
      | _ => rfl
    rw [e] at q
    exact call_reprE (C := C) hG (by have := hr.un; omega) pins s1 σ H1 [v] [u] Q I1 (.cons ru .nil) (fits_reprE.go (k := un1 reprE) (ds := [d]) q ⟨v, [], rfl, rd, rfl⟩)
end
end
/-- a def's promise, whatever is being shown meanwhile -/
theorem fnDu {P : Program} {w : World} {K : PySem.W.Frag} {mg : Str → Option Value} {base : Heap} {k n : Nat} {f C : Addr} {x qual : Str} {st : Stmt} {fd : FuncData} {N ps : List Str} {m : M Fl} (Fn : Fun K x qual st f fd) (S : FnScope N ps (defScope st)) (hn : n = ps.length) (hN : n ≤ N.length)
    (body : ∀ (cdv : Value) (A : Around) (outer : List Env) (s : Shared) (H : Hp) (E : XK), Room k (A.deeper (envOfC qual (defScope st) s.heap.objs.size f cdv)) →
      PSs (cxOf (L2N.CX P w) P w K mg base N qual (defScope st) f cdv A outer s H E) (defBody st) (tS ⟨C, mg, K, w, P⟩ (WE1 E) m)) : FnOk P w K mg base (L2N.CX P w) (k + 1) f fd ps (spD ⟨C, mg, K, w, P⟩ n (defM N.length m)) := by
  obtain ⟨oc, od, kV, doc, pm, an, cdv, ct, osl, rfl, lk, hcd⟩ := Fn.ex
  exact fn_of lk hcd S (fun vs H Q E h => h.1.trans hn) fun A outer s H vs Q E hr h => ⟨_, body cdv A outer s H E hr, spD_tS hN h⟩
end DL

set_option Elab.async false
set_option linter.all false
set_option maxRecDepth 100000
set_option maxHeartbeats 2000000
/-! how many a set of a row of numbers holds; rows of numbers downwards -/
namespace DL
open PySem PySem.Spec PyProof.Rows L2
variable [Tbs]
theorem same_len {a b : List Int} (ha : a.Nodup) (hb : b.Nodup) (h : ∀ k, k ∈ a ↔ k ∈ b) : a.length = b.length := ((List.perm_ext_iff_of_nodup ha hb).mpr h).length_eq
def lenSetM (ma : M D) : M D := bnd ma fun d => match d with
  | .tup ds => match intsOf ds with
    | some ns => ask (ns.Nodup ∧ ns.length ≤ 4000) (ret (.int (ns.length : Nat)))
    | none => fail
  | _ => fail
def downL (a b : Int) : List D := ((List.range (a - b).toNat).map fun i => a - ((i : Nat) : Int)).map D.int
def smallD (a : Int) : Prop := -(2 ^ 20) ≤ a ∧ a ≤ 2 ^ 20
def tRgN (ma mb mc : M D) : M D := bnd ma fun a => bnd mb fun b => bnd mc fun c => match a, b, c with
  | .int i, .int j, .int k => ask (k = -1 ∧ smallD i ∧ smallD j) (ret (.tup (downL i j)))
  | _, _, _ => fail
section
variable {X : Cx} {C : Addr} {W : WX} {a b c : Expr} {ma mb mc : M D} {p p2 q pos : Pos}
theorem e_lenSetT (hc : X.calm = true) (hg : Gl X "len") (hm : X.mg "len" = none) (hg2 : Gl X "set") (hm2 : X.mg "set" = none) (ha : PE X a (tD (gx X C) W ma))
    (na : starEach [a] X.env = (false, eval a X.env) :: starEach [] X.env := by rfl) : PE X (.Call (.Name "len" p) [.Call (.Name "set" p2) [a] [] q] [] pos) (tD (gx X C) W (lenSetM ma)) := by
  refine ⟨fun pins s σ H Q I h => ?_⟩
  refine Call_ (ld_blt I hg hm boot_len ?_)
  refine PyProof.Rows.callWith_builtin1 (PyProof.Rows.args_cons ?_ rfl) rfl rfl
  refine Call_ (ld_blt I hg2 hm2 boot_set ?_)
  refine PyProof.Rows.callWith_type1 (PyProof.Rows.args_cons (thn (ha.run pins s σ H _ I (lift1 (Ra := RD (gx X C)) h)) fun v s1 ⟨x, H1, I1, r1, B, F, env, d, pt, rd⟩ => PyProof.Rows.args_nil ?_) na) na rfl
  cases d with
  | tup ds =>
    have pt : Pt (gx X C) W (RD (gx X C)) σ H1 Q (match intsOf ds with
      | some ns => ask (ns.Nodup ∧ ns.length ≤ 4000) (ret (.int (ns.length : Nat)))
      | none => fail) B F env := pt
    cases z : intsOf ds with
    | none => rw [z] at pt; exact (Pt.no pt).elim
    | some ns =>
      rw [z] at pt
      obtain ⟨⟨hnd, hl⟩, ptA⟩ := pt.asked
      have e := intsOf_eq z
      subst e
      obtain ⟨l, vs, ex, hT, h2⟩ := rd
      subst ex
      rw [RpL.ints.mp h2] at hT
      obtain rfl : v = Value.ref l := r1
      obtain ⟨its, rv, pl, hz⟩ := I1.tuple (show SqT X.K H1 l (ns.map V.int) from .inl hT.rd)
      have hi : IntsAre its.toArray.toList ns := ints_of_vals rv
      refine call_set_tupI ns (I1.ok.hd hc) (show s1.heap.IsTuple l its.toArray from pl) hi (by unfold scanBound; omega) fun h' tk c hS hcn hk => ?_
      refine PyProof.Rows.args_nil ?_
      obtain ⟨o, es, ep, t, ho, hex, hd, _, nd, mem, _, hf, hn, _, _⟩ := hS
      have sz : es.size = ns.length := by
        have q := same_len nd hnd fun k => (mem k).symm.trans decide_eq_true_iff
        rw [List.length_map, Array.length_toList] at q
        exact q
      have I2 : Inv X pins σ H1 { s1 with heap := h', toks := tk } := I1.kept hk
      have pq : Q (V.int (ns.length : Nat)) H1 := Pt.pure ptA rfl
      exact call_len_set ho hex hd hf (by rw [sz]; omega) ⟨V.int (ns.length : Nat), H1, I2.tok _, ⟨_, by rw [sz]⟩, pq⟩
  | _ => exact (Pt.no pt).elim
theorem vals_down {us : List Value} {a : Int} (h : ∀ j u, us[j]? = some u → ∃ t, u = Value.int (a - ((j : Nat) : Int)) t) : Vals (((List.range us.length).map fun i => a - ((i : Nat) : Int)).map V.int) us := by
  rw [List.map_map]
  exact vals_of_get us _ fun j u e => h j u e
theorem e_tRgN (calm : X.calm = true) (hg : Gl X "tuple") (hm : X.mg "tuple" = none) (hg2 : Gl X "range") (hm2 : X.mg "range" = none) (ha : PE X a (tD (gx X C) W ma)) (hb : PE X b (tD (gx X C) W mb)) (hc : PE X c (tD (gx X C) W mc))
    (na : starEach [a, b, c] X.env = (false, eval a X.env) :: starEach [b, c] X.env := by rfl) (nb : starEach [b, c] X.env = (false, eval b X.env) :: starEach [c] X.env := by rfl) (nc : starEach [c] X.env = (false, eval c X.env) :: starEach [] X.env := by rfl)
    (hpl : (backTo q (starEach [b, c] X.env)).any (·.1) = false := by rfl) (na2 : starEach [.Call (.Name "range" p2) [a, b, c] [] q] X.env = (false, eval (.Call (.Name "range" p2) [a, b, c] [] q) X.env) :: starEach [] X.env := by rfl) : PE X (.Call (.Name "tuple" p) [.Call (.Name "range" p2) [a, b, c] [] q] [] pos) (tD (gx X C) W (tRgN ma mb mc)) := by
  refine ⟨fun pins s σ H Q I h => ?_⟩
  refine Call_ (ld_blt I hg hm boot_tuple (PyProof.Rows.callWith_type1 (PyProof.Rows.args_cons ?_ na2) na2))
  refine Call_ (ld_blt I hg2 hm2 boot_range ?_)
  refine PyProof.Rows.callWith_type1 (PyProof.Rows.args_cons (thn (ha.run pins s σ H _ I (lift1 (Ra := RD (gx X C)) h)) fun v s1 ⟨x, H1, I1, r1, B, F, env, d1, pt, rd⟩ =>
    PyProof.Rows.args_cons (thn (hb.run pins s1 σ H1 _ I1 (lift1 (Ra := RD (gx X C)) pt.lift)) fun v2 s2 ⟨x2, H2, I2, r2, B2, F2, env2, d2, pt2, rd2⟩ =>
      PyProof.Rows.args_cons (thn (hc.run pins s2 σ H2 _ I2 (lift1 (Ra := RD (gx X C)) pt2.lift)) fun v3 s3 ⟨x3, H3, I3, r3, B3, F3, env3, d3, pt3, rd3⟩ => PyProof.Rows.args_nil ?_) nc) nb) na) na hpl
  have no : ∀ {m : M D}, m = fail → Pt (gx X C) W (RD (gx X C)) σ H3 Q m B3 F3 env3 → False := fun e z => by subst e; exact Pt.no z
  cases d1 with
  | int i =>
    cases d2 with
    | int j =>
      cases d3 with
      | int k =>
        have pt3 : Pt (gx X C) W (RD (gx X C)) σ H3 Q (ask (k = -1 ∧ smallD i ∧ smallD j) (ret (.tup (downL i j)))) B3 F3 env3 := pt3
        obtain ⟨⟨ek, ⟨i1, i2⟩, ⟨j1, j2⟩⟩, ptA⟩ := pt3.asked
        subst ek
        obtain rfl : x = V.int i := rd
        obtain rfl : x2 = V.int j := rd2
        obtain rfl : x3 = V.int (-1) := rd3
        obtain ⟨t1, rfl⟩ := r1
        obtain ⟨t2, rfl⟩ := r2
        obtain ⟨t3, rfl⟩ := r3
        refine PySem.call_range_3 (by decide) (PyProof.Rows.args_nil ?_) (Or.inl (PyProof.noPylong_small (by omega)))
        have I4 : Inv X pins σ H3 { s3 with heap := s3.heap.push { cls := .type "range", data := .fields #[.int i t1, .int j t2, .int (-1) t3] }, toks := s3.toks } := I3.kept fun b u e => Heap.get?_push_of_some _ e
        refine call_tuple_range (n := (i - j).toNat) (I4.ok.hd calm) (IsRange.new _ _ _ _ _ _ _) (PySem.W.small_down (by omega) (by omega) (by omega) (by omega)) (PySem.W.rangeSize_downNat i j) (by omega) fun h' tk acc hk hi' => ?_
        have J2 : Inv X pins σ H3 { s3 with heap := h', toks := tk } := I4.kept hk
        have la : acc.toList.length = (i - j).toNat := hi'.1
        have vd := vals_down (a := i) (us := acc.toList) fun m u e => by
          obtain ⟨t, et⟩ := hi'.2 m u (by simpa using e)
          exact ⟨t, by rw [et]; congr 1; omega⟩
        rw [la] at vd
        have z := DLt.made J2 vd (by rw [List.length_map, List.length_map, List.length_range, sizeLine_eq]; omega) (Pt.tup ptA (RpL.ints.mpr rfl))
        rw [Array.toArray_toList] at z
        exact z
      | _ => exact (no rfl pt3).elim
    | _ => exact (no rfl pt3).elim
  | _ => exact (no rfl pt3).elim
end
end DL

set_option Elab.async false
set_option linter.all false
set_option maxRecDepth 100000
set_option maxHeartbeats 2000000
/-! Halls compared: their own ==, what is made of it for !=. -/
namespace HE
open PySem PySem.Spec PyProof.Rows L2
/-- what the class of Halls must have -/
structure EqF (K : PySem.W.Frag) (C f : Addr) : Prop where
  eq : PySem.W.findIn K (.ref C) "__eq__" = some (some (.ref f))
  ne : PySem.W.findIn K (.ref C) "__ne__" = some (some (.builtin "object.__ne__"))
  fn : PySem.W.isFn K (.ref f) = true
  hm : PySem.W.mroIn K C (.type "object") = some true
  n0 : PySem.W.mroIn K C (.type "NoneType") = some false
  n1 : PySem.W.mroIn K C (.type "bool") = some false
  n2 : PySem.W.mroIn K C (.type "int") = some false
  n3 : PySem.W.mroIn K C (.type "str") = some false
  n4 : PySem.W.mroIn K C (.type "tuple") = some false
  n5 : PySem.W.mroIn K C (.type "list") = some false
  n6 : PySem.W.mroIn K C (.type "dict") = some false
section
variable {prog : Program} {w : World} {A : Around} {E : Value → Shared → Prop} {s : Shared} {x dx C f : Addr} {K : PySem.W.Frag} {od : Option Obj}
theorem int_eq (b : Int) (u : Tok) {Q : Fin → Shared → Prop} (hx : s.heap.get? x = some (PySem.W.instObj C dx)) (h : Q (.done (.ret .notImplemented)) s) : wpAny (model prog w) A (Builtin.«int.__eq__» ⟨[.int b u, .ref x], []⟩) Q E s := by
  obtain ⟨hp, g, d, tk, os⟩ := s
  unfold PySem.W.instObj at hx
  wp_walk using wpAny_loadPart' hx, wpAny_load hx
  exact h
theorem bool_eq (b : Bool) {Q : Fin → Shared → Prop} (hx : s.heap.get? x = some (PySem.W.instObj C dx)) (h : Q (.done (.ret .notImplemented)) s) : wpAny (model prog w) A (Builtin.«int.__eq__» ⟨[.bool b, .ref x], []⟩) Q E s := by
  obtain ⟨hp, g, d, tk, os⟩ := s
  unfold PySem.W.instObj at hx
  wp_walk using wpAny_loadPart' hx, wpAny_load hx
  exact h
theorem str_eq (b : Str) (u : Tok) {Q : Fin → Shared → Prop} (hx : s.heap.get? x = some (PySem.W.instObj C dx)) (h : Q (.done (.ret .notImplemented)) s) : wpAny (model prog w) A (Builtin.«str.__eq__» ⟨[.str b u, .ref x], []⟩) Q E s := by
  obtain ⟨hp, g, d, tk, os⟩ := s
  unfold PySem.W.instObj at hx
  wp_walk using wpAny_loadPart' hx, wpAny_load hx
  exact h
theorem none_eq {Q : Fin → Shared → Prop} (h : Q (.done (.ret .notImplemented)) s) : wpAny (model prog w) A (Builtin.«NoneType.__eq__» ⟨[.none, .ref x], []⟩) Q E s := by
  obtain ⟨hp, g, d, tk, os⟩ := s
  wp_walk
  exact h
theorem list_eq (l : Addr) {ol : Obj} {Q : Fin → Shared → Prop} (hx : s.heap.get? x = some (PySem.W.instObj C dx)) (hl : s.heap.get? l = some ol)
    (f1 : ∀ {A' : Around} {Q : Bool → Shared → Prop}, Q false s → wpAny (model prog w) A' (isSubtype (.ref C) (.type "list")) Q E s) (h : Q (.done (.ret .notImplemented)) s) : wpAny (model prog w) A (Builtin.«list.__eq__» ⟨[.ref l, .ref x], []⟩) Q E s := by
  obtain ⟨hp, g, d, tk, os⟩ := s
  unfold PySem.W.instObj at hx
  wp_walk using wpAny_loadPart' hl, wpAny_loadPart' hx, wpAny_load hx, f1
  exact h
theorem tuple_eq (l : Addr) {ol : Obj} {Q : Fin → Shared → Prop} (hx : s.heap.get? x = some (PySem.W.instObj C dx)) (hl : s.heap.get? l = some ol)
    (f1 : ∀ {A' : Around} {Q : Bool → Shared → Prop}, Q false s → wpAny (model prog w) A' (isSubtype (.ref C) (.type "tuple")) Q E s) (h : Q (.done (.ret .notImplemented)) s) : wpAny (model prog w) A (Builtin.«tuple.__eq__» ⟨[.ref l, .ref x], []⟩) Q E s := by
  obtain ⟨hp, g, d, tk, os⟩ := s
  unfold PySem.W.instObj at hx
  wp_walk using wpAny_loadPart' hl, wpAny_loadPart' hx, wpAny_load hx, f1
  exact h
theorem dict_eq (l : Addr) {ol : Obj} {Q : Fin → Shared → Prop} (hx : s.heap.get? x = some (PySem.W.instObj C dx)) (hl : s.heap.get? l = some ol)
    (f1 : ∀ {A' : Around} {Q : Bool → Shared → Prop}, Q false s → wpAny (model prog w) A' (isSubtype (.ref C) (.type "dict")) Q E s) (h : Q (.done (.ret .notImplemented)) s) : wpAny (model prog w) A (Builtin.«dict.__eq__» ⟨[.ref l, .ref x], []⟩) Q E s := by
  obtain ⟨hp, g, d, tk, os⟩ := s
  unfold PySem.W.instObj at hx
  wp_walk using wpAny_loadPart' hl, wpAny_loadPart' hx, wpAny_load hx, f1
  exact h
theorem int_ne (b : Int) (u : Tok) {Q : Fin → Shared → Prop} (hx : s.heap.get? x = some (PySem.W.instObj C dx)) (h : Q (.done (.ret .notImplemented)) s) : wpAny (model prog w) A (Builtin.«int.__ne__» ⟨[.int b u, .ref x], []⟩) Q E s := by
  obtain ⟨hp, g, d, tk, os⟩ := s
  unfold PySem.W.instObj at hx
  wp_walk using wpAny_loadPart' hx, wpAny_load hx
  exact h
theorem bool_ne (b : Bool) {Q : Fin → Shared → Prop} (hx : s.heap.get? x = some (PySem.W.instObj C dx)) (h : Q (.done (.ret .notImplemented)) s) : wpAny (model prog w) A (Builtin.«int.__ne__» ⟨[.bool b, .ref x], []⟩) Q E s := by
  obtain ⟨hp, g, d, tk, os⟩ := s
  unfold PySem.W.instObj at hx
  wp_walk using wpAny_loadPart' hx, wpAny_load hx
  exact h
theorem str_ne (b : Str) (u : Tok) {Q : Fin → Shared → Prop} (hx : s.heap.get? x = some (PySem.W.instObj C dx)) (h : Q (.done (.ret .notImplemented)) s) : wpAny (model prog w) A (Builtin.«str.__ne__» ⟨[.str b u, .ref x], []⟩) Q E s := by
  obtain ⟨hp, g, d, tk, os⟩ := s
  unfold PySem.W.instObj at hx
  wp_walk using wpAny_loadPart' hx, wpAny_load hx
  exact h
theorem none_ne {Q : Fin → Shared → Prop} (h : Q (.done (.ret .notImplemented)) s) : wpAny (model prog w) A (Builtin.«NoneType.__ne__» ⟨[.none, .ref x], []⟩) Q E s := by
  obtain ⟨hp, g, d, tk, os⟩ := s
  wp_walk
  exact h
theorem list_ne (l : Addr) {ol : Obj} {Q : Fin → Shared → Prop} (hx : s.heap.get? x = some (PySem.W.instObj C dx)) (hl : s.heap.get? l = some ol)
    (f1 : ∀ {A' : Around} {Q : Bool → Shared → Prop}, Q false s → wpAny (model prog w) A' (isSubtype (.ref C) (.type "list")) Q E s) (h : Q (.done (.ret .notImplemented)) s) : wpAny (model prog w) A (Builtin.«list.__ne__» ⟨[.ref l, .ref x], []⟩) Q E s := by
  obtain ⟨hp, g, d, tk, os⟩ := s
  unfold PySem.W.instObj at hx
  wp_walk using wpAny_loadPart' hl, wpAny_loadPart' hx, wpAny_load hx, f1
  exact h
theorem tuple_ne (l : Addr) {ol : Obj} {Q : Fin → Shared → Prop} (hx : s.heap.get? x = some (PySem.W.instObj C dx)) (hl : s.heap.get? l = some ol)
    (f1 : ∀ {A' : Around} {Q : Bool → Shared → Prop}, Q false s → wpAny (model prog w) A' (isSubtype (.ref C) (.type "tuple")) Q E s) (h : Q (.done (.ret .notImplemented)) s) : wpAny (model prog w) A (Builtin.«tuple.__ne__» ⟨[.ref l, .ref x], []⟩) Q E s := by
  obtain ⟨hp, g, d, tk, os⟩ := s
  unfold PySem.W.instObj at hx
  wp_walk using wpAny_loadPart' hl, wpAny_loadPart' hx, wpAny_load hx, f1
  exact h
theorem dict_ne (l : Addr) {ol : Obj} {Q : Fin → Shared → Prop} (hx : s.heap.get? x = some (PySem.W.instObj C dx)) (hl : s.heap.get? l = some ol)
    (f1 : ∀ {A' : Around} {Q : Bool → Shared → Prop}, Q false s → wpAny (model prog w) A' (isSubtype (.ref C) (.type "dict")) Q E s) (h : Q (.done (.ret .notImplemented)) s) : wpAny (model prog w) A (Builtin.«dict.__ne__» ⟨[.ref l, .ref x], []⟩) Q E s := by
  obtain ⟨hp, g, d, tk, os⟩ := s
  unfold PySem.W.instObj at hx
  wp_walk using wpAny_loadPart' hl, wpAny_loadPart' hx, wpAny_load hx, f1
  exact h
end
end HE
namespace HE
open PySem PySem.Spec PyProof.Rows L2
section
variable {M : Model} {A : Around} {E : Value → Shared → Prop} {s : Shared} {x C f : Addr} {K : PySem.W.Frag} {od : Option Obj} {ox : Obj} {b : Value}
theorem eqBound (F : EqF K C f) (X : K.In s.heap) (I : PySem.W.InstAt s.heap x ox C od) {Q : Option Value → Shared → Prop} (h : wpAny M A (call (.ref f) [.ref x, b]) (fun v => Q (some v)) E s) : wpAny M A (callSpecialIfBound? (.ref x) "__eq__" [b]) Q E s := by
  simp only [callSpecialIfBound?, bindSpecialIfBound?]
  refine wpAny_holding (wpAny_bind (wpAny_bind (wpAny_bind (I.type.here ((PySem.W.looks_findIn X F.eq).here ?_)))))
  refine wpAny_bind (wpAny_askSetting (wpAny_ite ?_))
  have fin : wpAny M A (call (.ref f) ([.ref x] ++ [b]) >>= fun v => pure (some v)) Q E s := wpAny_bind (wpAny_mono h (fun v s' h' => wpAny_pure h') fun _ _ h' => h')
  split
  · exact wpAny_bind ((PySem.W.bind_fn X _ (beq_iff_eq.mp F.fn)).here (wpAny_pure (by exact fin)))
  · exact wpAny_tryCatch (wpAny_bind ((PySem.W.bind_fn X _ (beq_iff_eq.mp F.fn)).here (wpAny_pure (by exact fin))))
theorem neBound (F : EqF K C f) (X : K.In s.heap) (I : PySem.W.InstAt s.heap x ox C od) {Q : Option Value → Shared → Prop} (h : wpAny M A (call (.builtin "object.__ne__") [.ref x, b]) (fun v => Q (some v)) E s) : wpAny M A (callSpecialIfBound? (.ref x) "__ne__" [b]) Q E s := by
  simp only [callSpecialIfBound?, bindSpecialIfBound?]
  refine wpAny_holding (wpAny_bind (wpAny_bind (wpAny_bind (I.type.here ((PySem.W.looks_findIn X F.ne).here ?_)))))
  refine wpAny_bind (wpAny_askSetting (wpAny_ite ?_))
  have fin : wpAny M A (call (.builtin "object.__ne__") ([.ref x] ++ [b]) >>= fun v => pure (some v)) Q E s := wpAny_bind (wpAny_mono h (fun v s' h' => wpAny_pure h') fun _ _ h' => h')
  split
  · exact wpAny_bind (wpAny_of_eq (PySem.F.cmp_object.ne.bind _) (wpAny_pure (by exact fin)))
  · exact wpAny_tryCatch (wpAny_bind (wpAny_of_eq (PySem.F.cmp_object.ne.bind _) (wpAny_pure (by exact fin))))
end
section
variable {prog : Program} {w : World} {A : Around} {E : Value → Shared → Prop} {s : Shared} {x C f : Addr} {K : PySem.W.Frag} {od : Option Obj} {ox : Obj} {b : Value}
theorem objNe (F : EqF K C f) (X : K.In s.heap) (I : PySem.W.InstAt s.heap x ox C od) (hu : A.units < cLine) {Q : PySem.Fin → Shared → Prop}
    (h : wpAny (model prog w) A (call (.ref f) [.ref x, b]) (fun v s' => ∃ c, v = .bool c ∧ Q (.done (.ret (.bool (!c)))) s') E s) : wpAny (model prog w) A (Builtin.«object.__ne__» ⟨[.ref x, b], []⟩) Q E s := by
  unfold Builtin.«object.__ne__»
  repeat (first
    | with_reducible refine wpAny_cRoomFor hu ?_
    | (refine wpAny_bind (m := callSpecialIfBound? (.ref x) (Str.ofString "__eq__") [b])
        (eqBound F X I (wpAny_mono h (fun r s' hr => by
          obtain ⟨c, rfl, hq⟩ := hr
          repeat (first | exact hq | exact wpAny_pure hq | exact wpAny_truthy_bool hq | (refine wpAny_bind (m := truthy (.bool _)) (wpAny_truthy_bool ?_)) | wp_step)) fun _ _ e => e)))
    | wp_step)
theorem tryEq (F : EqF K C f) (X : K.In s.heap) (I : PySem.W.InstAt s.heap x ox C od) {Q : Option Value → Shared → Prop}
    (h : wpAny (model prog w) A (call (.ref f) [.ref x, b]) (fun v s' => ∃ c, v = .bool c ∧ Q (some (.bool c)) s') E s) : wpAny (model prog w) A (tryCompare (.ref x) "__eq__" b) Q E s := by
  unfold tryCompare
  refine wpAny_bind (eqBound F X I (wpAny_mono h (fun v s' hv => ?_) fun _ _ e => e))
  obtain ⟨c, rfl, hq⟩ := hv
  exact wpAny_pure hq
theorem tryNe (F : EqF K C f) (X : K.In s.heap) (I : PySem.W.InstAt s.heap x ox C od) (hu : A.units + 1 < cLine) {Q : Option Value → Shared → Prop}
    (h : wpAny (model prog w) A.in1 (call (.ref f) [.ref x, b]) (fun v s' => ∃ c, v = .bool c ∧ Q (some (.bool (!c))) s') E s) : wpAny (model prog w) A (tryCompare (.ref x) "__ne__" b) Q E s := by
  unfold tryCompare
  refine wpAny_bind (neBound F X I (wpAny_call (codeAny_call_builtin PySem.F.cmp_object.ne.plain PySem.F.cmpEntry_ne
    (PySem.W.check_slot PySem.F.cmpKind_ne PySem.F.cmpSplit_ne (I.type.andThen (PySem.W.looks_mroIn X F.hm)) (PySem.F.cmpArgs_ne _ _) (objNe (A := A.in1) F X I hu (wpAny_mono h (fun v s' hv => ?_) fun _ _ e => e))))))
  obtain ⟨c, rfl, hq⟩ := hv
  first | exact ⟨c, rfl, wpAny_pure hq⟩ | exact ⟨c, rfl, wpAny_pure (wpAny_pure hq)⟩ | exact ⟨c, rfl, hq⟩
/-- the Hall is on the left -/
theorem left_eq (F : EqF K C f) (X : K.In s.heap) (I : PySem.W.InstAt s.heap x ox C od) (hu : A.units + 1 < cLine) {ty : Value} (hty : PySem.W.Looks (model prog w) s.heap (typeOf b) ty) (hs : ty = .ref C ∨ PySem.W.subIn K ty (.ref C) = some false) {Q : Value → Shared → Prop}
    (h : wpAny (model prog w) A (call (.ref f) [.ref x, b]) (fun v s' => ∃ c, v = .bool c ∧ Q (.bool c) s') E s) : wpAny (model prog w) A (compareOp .Eq (.ref x) b) Q E s := by
  have one : wpAny (model prog w) A (tryCompare (.ref x) "__eq__" b) (fun r s' => ∃ c, r = some (.bool c) ∧ Q (.bool c) s') E s := tryEq F X I (wpAny_mono h (fun v s' ⟨c, e, q⟩ => ⟨c, e, c, rfl, q⟩) fun _ _ e => e)
  unfold compareOp
  simp only [richCompare, cmpInfo_Eq, oneThing_ref]
  refine wpAny_holding (wpAny_bind (wpAny_cRoomFor (Nat.lt_of_succ_lt hu) ?_))
  refine wpAny_bind (I.type.here ?_)
  refine wpAny_bind (hty.here ?_)
  have fin : wpAny (model prog w) A (do
      if let some v ← tryCompare (.ref x) "__eq__" b then return v
      if !false then
        if let some v ← tryCompare b "__eq__" (.ref x) then return v
      rule "compare.eq-identity"; return .bool (← isSame (.ref x) b)) Q E s := by
    refine wpAny_bind (wpAny_mono one (fun r s1 z => ?_) fun _ _ e => e)
    obtain ⟨c, rfl, q⟩ := z
    exact wpAny_pure q
  rcases hs with e | e
  · subst e
    rw [show (Value.ref C != Value.ref C) = false from by simp]
    simp only [Bool.false_eq_true, if_false]
    refine wpAny_bind (wpAny_pure ?_)
    simp only [Bool.false_eq_true, if_false]
    exact fin
  · split
    · refine wpAny_bind ((PySem.W.looks_subIn X e).here ?_)
      simp only [Bool.false_eq_true, if_false]
      exact fin
    · refine wpAny_bind (wpAny_pure ?_)
      simp only [Bool.false_eq_true, if_false]
      exact fin
end
end HE
namespace HE
open PySem PySem.Spec PyProof.Rows L2
section
variable {prog : Program} {w : World} {A : Around} {E : Value → Shared → Prop} {s : Shared} {x C f : Addr} {K : PySem.W.Frag} {od : Option Obj} {ox : Obj} {b : Value}
theorem left_ne (F : EqF K C f) (X : K.In s.heap) (I : PySem.W.InstAt s.heap x ox C od) (hu : A.units + 1 < cLine) {ty : Value} (hty : PySem.W.Looks (model prog w) s.heap (typeOf b) ty) (hs : ty = .ref C ∨ PySem.W.subIn K ty (.ref C) = some false) {Q : Value → Shared → Prop}
    (h : wpAny (model prog w) A.in1 (call (.ref f) [.ref x, b]) (fun v s' => ∃ c, v = .bool c ∧ Q (.bool (!c)) s') E s) : wpAny (model prog w) A (compareOp .NotEq (.ref x) b) Q E s := by
  have one : wpAny (model prog w) A (tryCompare (.ref x) "__ne__" b) (fun r s' => ∃ c, r = some (.bool c) ∧ Q (.bool c) s') E s := tryNe F X I hu (wpAny_mono h (fun v s' ⟨c, e, q⟩ => ⟨c, e, _, rfl, q⟩) fun _ _ e => e)
  unfold compareOp
  simp only [richCompare, cmpInfo_NotEq, oneThing_ref]
  refine wpAny_holding (wpAny_bind (wpAny_cRoomFor (Nat.lt_of_succ_lt hu) ?_))
  refine wpAny_bind (I.type.here ?_)
  refine wpAny_bind (hty.here ?_)
  have fin : wpAny (model prog w) A (do
      if let some v ← tryCompare (.ref x) "__ne__" b then return v
      if !false then
        if let some v ← tryCompare b "__ne__" (.ref x) then return v
      rule "compare.ne-identity"; return .bool (!(← isSame (.ref x) b))) Q E s := by
    refine wpAny_bind (wpAny_mono one (fun r s1 z => ?_) fun _ _ e => e)
    obtain ⟨c, rfl, q⟩ := z
    exact wpAny_pure q
  rcases hs with e | e
  · subst e
    rw [show (Value.ref C != Value.ref C) = false from by simp]
    simp only [Bool.false_eq_true, if_false]
    refine wpAny_bind (wpAny_pure ?_)
    simp only [Bool.false_eq_true, if_false]
    exact fin
  · split
    · refine wpAny_bind ((PySem.W.looks_subIn X e).here ?_)
      simp only [Bool.false_eq_true, if_false]
      exact fin
    · refine wpAny_bind (wpAny_pure ?_)
      simp only [Bool.false_eq_true, if_false]
      exact fin
/-- the Hall is on the right, something of a built-in kind on the left -/
theorem right_eq (F : EqF K C f) (X : K.In s.heap) (I : PySem.W.InstAt s.heap x ox C od) (hu : A.units + 1 < cLine) {T : String} (hT : s.TypeIs b T) (hn : PySem.W.mroIn K C (.type T) = some false)
    (hc : ∀ {Q : Option Value → Shared → Prop}, Q none s → wpAny (model prog w) A (tryCompare b "__eq__" (.ref x)) Q E s) {Q : Value → Shared → Prop}
    (h : wpAny (model prog w) A (call (.ref f) [.ref x, b]) (fun v s' => ∃ c, v = .bool c ∧ Q (.bool c) s') E s) : wpAny (model prog w) A (compareOp .Eq b (.ref x)) Q E s := by
  have one : wpAny (model prog w) A (tryCompare (.ref x) "__eq__" b) (fun r s' => ∃ c, r = some (.bool c) ∧ Q (.bool c) s') E s := tryEq F X I (wpAny_mono h (fun v s' ⟨c, e, q⟩ => ⟨c, e, c, rfl, q⟩) fun _ _ e => e)
  unfold compareOp
  simp only [richCompare, cmpInfo_Eq, hT.oneThing_none]
  refine wpAny_holding (wpAny_bind (wpAny_cRoomFor (Nat.lt_of_succ_lt hu) ?_))
  refine wpAny_bind (wpAny_typeOf hT ?_)
  refine wpAny_bind (I.type.here ?_)
  rw [show (Value.type T != Value.ref C) = true from by simp]
  simp only [if_true]
  refine wpAny_bind ((PySem.W.looks_subIn X (t := .ref C) hn).here ?_)
  simp only [Bool.false_eq_true, if_false, Bool.not_false, if_true]
  refine wpAny_bind (m := tryCompare b _ (.ref x)) (hc ?_)
  refine wpAny_bind (m := tryCompare (.ref x) _ b) (wpAny_mono one (fun r s1 z => ?_) fun _ _ e => e)
  obtain ⟨c, rfl, q⟩ := z
  exact wpAny_pure q
theorem right_ne (F : EqF K C f) (X : K.In s.heap) (I : PySem.W.InstAt s.heap x ox C od) (hu : A.units + 1 < cLine) {T : String} (hT : s.TypeIs b T) (hn : PySem.W.mroIn K C (.type T) = some false)
    (hc : ∀ {Q : Option Value → Shared → Prop}, Q none s → wpAny (model prog w) A (tryCompare b "__ne__" (.ref x)) Q E s) {Q : Value → Shared → Prop}
    (h : wpAny (model prog w) A.in1 (call (.ref f) [.ref x, b]) (fun v s' => ∃ c, v = .bool c ∧ Q (.bool (!c)) s') E s) : wpAny (model prog w) A (compareOp .NotEq b (.ref x)) Q E s := by
  have one : wpAny (model prog w) A (tryCompare (.ref x) "__ne__" b) (fun r s' => ∃ c, r = some (.bool c) ∧ Q (.bool c) s') E s := tryNe F X I hu (wpAny_mono h (fun v s' ⟨c, e, q⟩ => ⟨c, e, _, rfl, q⟩) fun _ _ e => e)
  unfold compareOp
  simp only [richCompare, cmpInfo_NotEq, hT.oneThing_none]
  refine wpAny_holding (wpAny_bind (wpAny_cRoomFor (Nat.lt_of_succ_lt hu) ?_))
  refine wpAny_bind (wpAny_typeOf hT ?_)
  refine wpAny_bind (I.type.here ?_)
  rw [show (Value.type T != Value.ref C) = true from by simp]
  simp only [if_true]
  refine wpAny_bind ((PySem.W.looks_subIn X (t := .ref C) hn).here ?_)
  simp only [Bool.false_eq_true, if_false, Bool.not_false, if_true]
  refine wpAny_bind (m := tryCompare b _ (.ref x)) (hc ?_)
  refine wpAny_bind (m := tryCompare (.ref x) _ b) (wpAny_mono one (fun r s1 z => ?_) fun _ _ e => e)
  obtain ⟨c, rfl, q⟩ := z
  exact wpAny_pure q
/-- what is of a built-in kind leaves it to the Hall -/
structure Leaves (prog : Program) (w : World) (A : Around) (E : Value → Shared → Prop) (s : Shared) (b : Value) (x : Addr) (T : String) : Prop where
  ty : s.TypeIs b T
  eq : ∀ {Q : Option Value → Shared → Prop}, Q none s → wpAny (model prog w) A (tryCompare b "__eq__" (.ref x)) Q E s
  ne : ∀ {Q : Option Value → Shared → Prop}, Q none s → wpAny (model prog w) A (tryCompare b "__ne__" (.ref x)) Q E s
variable {dx : Addr}
theorem leaves_int (i : Int) (t : Tok) (hx : s.heap.get? x = some (PySem.W.instObj C dx)) : Leaves prog w A E s (.int i t) x "int" :=
  ⟨rfl, fun q => wpAny_tryCompare_declines rfl PySem.F.slot_int_eq (wpAny_call_entry PySem.F.slot_int_eq rfl PySem.F.entry_int_eq (int_eq i t hx ⟨_, rfl, rfl, q⟩) (PySem.F.args_int_eq_2 _ _)),
    fun q => wpAny_tryCompare_declines rfl PySem.F.slot_int_ne (wpAny_call_entry PySem.F.slot_int_ne rfl PySem.F.entry_int_ne (int_ne i t hx ⟨_, rfl, rfl, q⟩) (PySem.F.args_int_ne_2 _ _))⟩
theorem leaves_bool (i : Bool) (hx : s.heap.get? x = some (PySem.W.instObj C dx)) : Leaves prog w A E s (.bool i) x "bool" :=
  ⟨rfl, fun q => wpAny_tryCompare_declines rfl PySem.F.slot_bool_eq (wpAny_call_entry PySem.F.slot_bool_eq rfl PySem.F.entry_int_eq (bool_eq i hx ⟨_, rfl, rfl, q⟩) (PySem.F.args_int_eq_2 _ _)),
    fun q => wpAny_tryCompare_declines rfl PySem.F.slot_bool_ne (wpAny_call_entry PySem.F.slot_bool_ne rfl PySem.F.entry_int_ne (bool_ne i hx ⟨_, rfl, rfl, q⟩) (PySem.F.args_int_ne_2 _ _))⟩
theorem leaves_str (i : Str) (t : Tok) (hx : s.heap.get? x = some (PySem.W.instObj C dx)) : Leaves prog w A E s (.str i t) x "str" :=
  ⟨rfl, fun q => wpAny_tryCompare_declines rfl PySem.F.slot_str_eq (wpAny_call_entry PySem.F.slot_str_eq rfl PySem.F.entry_str_eq (str_eq i t hx ⟨_, rfl, rfl, q⟩) (PySem.F.args_str_eq_2 _ _)),
    fun q => wpAny_tryCompare_declines rfl PySem.F.slot_str_ne (wpAny_call_entry PySem.F.slot_str_ne rfl PySem.F.entry_str_ne (str_ne i t hx ⟨_, rfl, rfl, q⟩) (PySem.F.args_str_ne_2 _ _))⟩
theorem leaves_none : Leaves prog w A E s .none x "NoneType" :=
  ⟨rfl, fun q => wpAny_tryCompare_declines rfl PySem.F.slot_NoneType_eq (wpAny_call_entry PySem.F.slot_NoneType_eq rfl PySem.F.entry_NoneType_eq (none_eq ⟨_, rfl, rfl, q⟩) (PySem.F.args_NoneType_eq_2 _ _)),
    fun q => wpAny_tryCompare_declines rfl PySem.F.slot_NoneType_ne (wpAny_call_entry PySem.F.slot_NoneType_ne rfl PySem.F.entry_NoneType_ne (none_ne ⟨_, rfl, rfl, q⟩) (PySem.F.args_NoneType_ne_2 _ _))⟩
theorem leaves_list {l : Addr} {ol : Obj} (F : EqF K C f) (X : K.In s.heap) (hx : s.heap.get? x = some (PySem.W.instObj C dx)) (hl : s.heap.get? l = some ol) (hc : ol.cls = .type "list") : Leaves prog w A E s (.ref l) x "list" :=
  have f1 : ∀ {A' : Around} {Q : Bool → Shared → Prop}, Q false s → wpAny (model prog w) A' (isSubtype (.ref C) (.type "list")) Q E s := fun q => (PySem.W.looks_subIn X (t := .ref C) F.n5).here q
  ⟨⟨_, hl, hc⟩, fun q => wpAny_tryCompare_declines ⟨_, hl, hc⟩ PySem.F.slot_list_eq (wpAny_call_entry PySem.F.slot_list_eq ⟨_, hl, hc⟩ PySem.F.entry_list_eq (list_eq l hx hl f1 ⟨_, rfl, rfl, q⟩) (PySem.F.args_list_eq_2 _ _)),
    fun q => wpAny_tryCompare_declines ⟨_, hl, hc⟩ PySem.F.slot_list_ne (wpAny_call_entry PySem.F.slot_list_ne ⟨_, hl, hc⟩ PySem.F.entry_list_ne (list_ne l hx hl f1 ⟨_, rfl, rfl, q⟩) (PySem.F.args_list_ne_2 _ _))⟩
theorem leaves_tuple {l : Addr} {ol : Obj} (F : EqF K C f) (X : K.In s.heap) (hx : s.heap.get? x = some (PySem.W.instObj C dx)) (hl : s.heap.get? l = some ol) (hc : ol.cls = .type "tuple") : Leaves prog w A E s (.ref l) x "tuple" :=
  have f1 : ∀ {A' : Around} {Q : Bool → Shared → Prop}, Q false s → wpAny (model prog w) A' (isSubtype (.ref C) (.type "tuple")) Q E s := fun q => (PySem.W.looks_subIn X (t := .ref C) F.n4).here q
  ⟨⟨_, hl, hc⟩, fun q => wpAny_tryCompare_declines ⟨_, hl, hc⟩ PySem.F.slot_tuple_eq (wpAny_call_entry PySem.F.slot_tuple_eq ⟨_, hl, hc⟩ PySem.F.entry_tuple_eq (tuple_eq l hx hl f1 ⟨_, rfl, rfl, q⟩) (PySem.F.args_tuple_eq_2 _ _)),
    fun q => wpAny_tryCompare_declines ⟨_, hl, hc⟩ PySem.F.slot_tuple_ne (wpAny_call_entry PySem.F.slot_tuple_ne ⟨_, hl, hc⟩ PySem.F.entry_tuple_ne (tuple_ne l hx hl f1 ⟨_, rfl, rfl, q⟩) (PySem.F.args_tuple_ne_2 _ _))⟩
theorem leaves_dict {l : Addr} {ol : Obj} (F : EqF K C f) (X : K.In s.heap) (hx : s.heap.get? x = some (PySem.W.instObj C dx)) (hl : s.heap.get? l = some ol) (hc : ol.cls = .type "dict") : Leaves prog w A E s (.ref l) x "dict" :=
  have f1 : ∀ {A' : Around} {Q : Bool → Shared → Prop}, Q false s → wpAny (model prog w) A' (isSubtype (.ref C) (.type "dict")) Q E s := fun q => (PySem.W.looks_subIn X (t := .ref C) F.n6).here q
  ⟨⟨_, hl, hc⟩, fun q => wpAny_tryCompare_declines ⟨_, hl, hc⟩ PySem.F.slot_dict_eq (wpAny_call_entry PySem.F.slot_dict_eq ⟨_, hl, hc⟩ PySem.F.entry_dict_eq (dict_eq l hx hl f1 ⟨_, rfl, rfl, q⟩) (PySem.F.args_dict_eq_2 _ _)),
    fun q => wpAny_tryCompare_declines ⟨_, hl, hc⟩ PySem.F.slot_dict_ne (wpAny_call_entry PySem.F.slot_dict_ne ⟨_, hl, hc⟩ PySem.F.entry_dict_ne (dict_ne l hx hl f1 ⟨_, rfl, rfl, q⟩) (PySem.F.args_dict_ne_2 _ _))⟩
end
end HE
namespace DL
open PySem PySem.Spec PyProof.Rows L2 HE
variable [Tbs]
def boolR (neg : Bool) : Res → M D
  | .d (.bl c) => ret (.bl (if neg = true then !c else c))
  | _ => fail
theorem Pt.boolR {W : WX} {neg : Bool} {G : Gx} {B F : Addr → Prop} {σ : L2.St} {H : Hp} {env : List Slot} {Q : V → Hp → Prop} {r : Res} {v : V} (q : Pt G W (RD G) σ H Q (DL.boolR neg r) B F env) (rr : RRs G B F env σ H r v) : ∃ c, v = .bl c ∧ Q (.bl (if neg = true then !c else c)) H := by
  cases r with
  | d d =>
    cases d with
    | bl y => exact ⟨y, rr, Pt.pure q (b := .bl _) rfl⟩
    | _ => exact (Pt.no q).elim
  | o o => exact (Pt.no q).elim
section
variable {X : Cx} {C : Addr} {W : WX} {pins : List (Addr × Obj)} {σ : L2.St} {H : Hp} {s : Shared} {B F : Addr → Prop} {env : List Slot} {A : Around} {Q : V → Hp → Prop} {k : Nat} {f : Addr} {fd : FuncData} {ps : List Str} {df : DF} {neg : Bool} {d1 d2 : D} {v1 v2 : V} {u1 u2 : Value}
theorem call_heq (Fn : FnG X.prog X.w X.K X.mg X.base k f fd ps (spD (gx X C) 2 df)) (hb : Binds X.K fd ps []) (hn : 2 = ps.length) (hr : Room k A) (hG : A.guards = some []) (e0 : Env0 X.prog X.w X.K X.mg X.base A X.stack s H) (tk : L2N.Takes X W) (I : Inv X pins σ H s)
    (q : Pt (gx X C) W (RD (gx X C)) σ H Q (bnd (callD df [d1, d2]) (boolR neg)) B F env) (p1 : Rp (gx X C) F H d1 v1) (p2 : Rp (gx X C) F H d2 v2) (e1 : RelV v1 u1) (e2 : RelV v2 u2) :
    wpAny (model X.prog X.w) A (call (.ref f) [u1, u2]) (fun v s' => ∃ c, v = .bool c ∧ EP X pins σ Q (.bool (if neg = true then !c else c)) s') X.xe s := by
  have hb' := hb s [u1, u2] I.kIn (by rw [List.append_nil]; exact hn)
  rw [List.append_nil] at hb'
  have pc := (q.bindP (Ra := RRs (gx X C)) (as := []) (xs := []) rfl).imp fun v H2 ⟨F2, env2, r2, p2, _, rr2⟩ => Pt.boolR p2 rr2
  refine wpAny_call (codeAny_mono (Fn.run A X.stack s H ⟨[u1, u2], []⟩ [u1, u2] [v1, v2] _ (WE W σ) hr hG e0 hb' (.cons e1 (.cons e2 .nil)) (Pt.callD (vs := [v1, v2]) pc ⟨_, _, rfl, p1, _, [], rfl, p2, rfl⟩ rfl)) fun rr s' hq => ?_)
  match rr, hq with
  | .error ex, hq => exact L2N.passAt tk σ pins H s ex s' I hq
  | .ok (.ret w), hq =>
    obtain ⟨v, H2, I2, rv, c, ev, qq⟩ := I.after hq
    subst ev
    obtain rfl : w = Value.bool c := rv
    exact ⟨c, rfl, .bl _, H2, I2, rfl, qq⟩
  | .ok .next, hq => exact hq.elim
  | .ok .brk, hq => exact hq.elim
  | .ok .cont, hq => exact hq.elim
/-- of what kinds a Hall is compared with -/
def sideOk : D → Bool
  | .non => true | .bl _ => true | .int _ => true | .str _ => true | .tup _ => true | .lst _ => true | .emp => true
  | _ => false
theorem sub_no {K : PySem.W.Frag} {T : String} (h : fastBuiltinMro T = some [.type T, .type "object"] ∨ fastBuiltinMro T = some [.type T, .type "int", .type "object"]) : PySem.W.subIn K (.type T) (.ref C) = some false := by
  show (fastBuiltinMro T).map (·.contains (.ref C)) = some false
  rcases h with e | e <;> rw [e] <;> first | rfl | simp
theorem side (Fq : EqF X.K C f) {x dx : Addr} {A : Around} {E : Value → Shared → Prop} (I : Inv X pins σ H s) (hx : s.heap.get? x = some (PySem.W.instObj C dx)) {d : D} {v : V} {u : Value} (ok : sideOk d = true) (r : Rp (gx X C) F H d v) (ru : RelV v u) :
    ∃ T, Leaves X.prog X.w A E s u x T ∧ PySem.W.mroIn X.K C (.type T) = some false ∧ PySem.W.subIn X.K (.type T) (.ref C) = some false ∧ PySem.W.Looks (model X.prog X.w) s.heap (typeOf u) (.type T) := by
  have at_ : ∀ {l : Addr} {ol : Obj} {T : String}, s.heap.get? l = some ol → ol.cls = .type T → PySem.W.Looks (model X.prog X.w) s.heap (typeOf (.ref l)) (.type T) := fun hl hc A Q E s k q => wpAny_typeOf_ref (k _ _ hl) (by rw [hc]; exact q)
  cases d with
  | non =>
    obtain rfl : v = .non := r
    obtain rfl : u = Value.none := ru
    exact ⟨"NoneType", leaves_none, Fq.n0, sub_no (.inl (by decide +kernel)), fun A Q E s k q => wpAny_typeOf (show s.TypeIs .none "NoneType" from rfl) q⟩
  | bl b =>
    obtain rfl : v = .bl b := r
    obtain rfl : u = Value.bool b := ru
    exact ⟨"bool", leaves_bool b hx, Fq.n1, sub_no (.inr (by decide +kernel)), fun A Q E s k q => wpAny_typeOf (show s.TypeIs (.bool b) "bool" from rfl) q⟩
  | int i =>
    obtain rfl : v = .int i := r
    obtain ⟨t, rfl⟩ := ru
    exact ⟨"int", leaves_int i t hx, Fq.n2, sub_no (.inl (by decide +kernel)), fun A Q E s k q => wpAny_typeOf (show s.TypeIs (.int i t) "int" from rfl) q⟩
  | str i =>
    obtain rfl : v = .str i := r
    obtain ⟨t, rfl⟩ := ru
    exact ⟨"str", leaves_str i t hx, Fq.n3, sub_no (.inl (by decide +kernel)), fun A Q E s k q => wpAny_typeOf (show s.TypeIs (.str i t) "str" from rfl) q⟩
  | tup ds =>
    obtain ⟨l, vs, e, hT, _⟩ := r
    subst e
    obtain rfl : u = Value.ref l := ru
    obtain ⟨its, _, ⟨ol, hl, hc, _⟩, _⟩ := I.tuple (show SqT X.K H l vs from .inl hT.rd)
    exact ⟨"tuple", leaves_tuple Fq I.kIn hx hl hc, Fq.n4, sub_no (.inl (by decide +kernel)), at_ hl hc⟩
  | lst ds =>
    obtain ⟨l, vs, e, _, hl, _⟩ := r
    subst e
    obtain rfl : u = Value.ref l := ru
    obtain ⟨_, us, n, _, la⟩ := lst_look I hl
    exact ⟨"list", leaves_list Fq I.kIn hx la rfl, Fq.n5, sub_no (.inl (by decide +kernel)), at_ la rfl⟩
  | emp =>
    obtain ⟨l, e, _, hl⟩ := r
    subst e
    obtain rfl : u = Value.ref l := ru
    obtain ⟨_, _, _, _, ol, _, _, la, hc, _⟩ := dk_of I.hok hl
    exact ⟨"dict", leaves_dict Fq I.kIn hx la hc.1, Fq.n6, sub_no (.inl (by decide +kernel)), at_ la hc.1⟩
  | _ => cases ok
/-- == and != where a Hall may be -/
def heqM (df : DF) (neg : Bool) (x y : D) : M D := match x, y with
  | .hall g sp, .hall g' sp' => bnd (callD df [.hall g sp, .hall g' sp']) (boolR neg)
  | .hall g sp, y => ask (sideOk y = true) (bnd (callD df [.hall g sp, y]) (boolR neg))
  | x, .hall g sp => ask (sideOk x = true) (bnd (callD df [.hall g sp, x]) (boolR neg))
  | _, _ => fail
def cmpO (neg : Bool) : CmpOp := if neg = true then .NotEq else .Eq
theorem heq_run (Fn : FnG X.prog X.w X.K X.mg X.base k f fd ps (spD (gx X C) 2 df)) (Fq : EqF X.K C f) (hb : Binds X.K fd ps []) (hn : 2 = ps.length) (hr : Room (k + 1) X.A) (hG : X.A.guards = some []) (tk : L2N.Takes X W) (I : Inv X pins σ H s)
    (q : Pt (gx X C) W (RD (gx X C)) σ H Q (heqM df neg d1 d2) B F env) (p1 : Rp (gx X C) F H d1 v1) (p2 : Rp (gx X C) F H d2 v2) (e1 : RelV v1 u1) (e2 : RelV v2 u2) :
    wpAny (model X.prog X.w) X.A (compareOp (cmpO neg) u1 u2) (EP X pins σ Q) X.xe s := by
  have hu : X.A.units + 1 < cLine := by have := hr.un; omega
  have e0 : Env0 X.prog X.w X.K X.mg X.base X.A X.stack s H := I.env0
  have e0' : Env0 X.prog X.w X.K X.mg X.base X.A.in1 X.stack s H := let e := I.env0; ⟨e.frames, e.mod, e.bs, e.bsz, e.funs, e.frf, e.hok, e.bare⟩
  -- the call that settles it
  have run : ∀ {a b : D} {va vb : V} {ua ub : Value}, Pt (gx X C) W (RD (gx X C)) σ H Q (bnd (callD df [a, b]) (boolR neg)) B F env → Rp (gx X C) F H a va → Rp (gx X C) F H b vb → RelV va ua → RelV vb ub →
      wpAny (model X.prog X.w) X.A (call (.ref f) [ua, ub]) (fun v s' => ∃ c, v = .bool c ∧ EP X pins σ Q (.bool (if neg = true then !c else c)) s') X.xe s ∧ wpAny (model X.prog X.w) X.A.in1 (call (.ref f) [ua, ub]) (fun v s' => ∃ c, v = .bool c ∧ EP X pins σ Q (.bool (if neg = true then !c else c)) s') X.xe s :=
    fun q ra rb ea eb => ⟨call_heq Fn hb hn (hr.mono (by omega)) hG e0 tk I q ra rb ea eb, call_heq Fn hb hn (hr.mono (by omega)).in1 hG e0' tk I q ra rb ea eb⟩
  have left : ∀ {g sp : Int} {b : D} {va vb : V} {ua ub : Value} {ty : Value}, PySem.W.Looks (model X.prog X.w) s.heap (typeOf ub) ty → (ty = .ref C ∨ PySem.W.subIn X.K ty (.ref C) = some false) → Pt (gx X C) W (RD (gx X C)) σ H Q (bnd (callD df [.hall g sp, b]) (boolR neg)) B F env → Rp (gx X C) F H (.hall g sp) va → Rp (gx X C) F H b vb → RelV va ua → RelV vb ub →
      wpAny (model X.prog X.w) X.A (compareOp (cmpO neg) ua ub) (EP X pins σ Q) X.xe s := by
    intro g sp b va vb ua ub ty hty hs q ra rb ea eb
    obtain ⟨r1, r2⟩ := run q ra rb ea eb
    obtain ⟨a, dx, ev, hF, h1⟩ := id ra
    subst ev
    obtain rfl : ua = Value.ref a := ea
    obtain ⟨mA, O, _⟩ := ins_get I.hok h1
    obtain ⟨od, J, _⟩ := O.look
    cases neg with
    | false => exact left_eq Fq I.kIn J hu hty hs r1
    | true => exact left_ne Fq I.kIn J hu hty hs r2
  have right : ∀ {g sp : Int} {b : D} {va vb : V} {ua ub : Value}, sideOk b = true → Pt (gx X C) W (RD (gx X C)) σ H Q (bnd (callD df [.hall g sp, b]) (boolR neg)) B F env → Rp (gx X C) F H (.hall g sp) va → Rp (gx X C) F H b vb → RelV va ua → RelV vb ub →
      wpAny (model X.prog X.w) X.A (compareOp (cmpO neg) ub ua) (EP X pins σ Q) X.xe s := by
    intro g sp b va vb ua ub ok q ra rb ea eb
    obtain ⟨r1, r2⟩ := run q ra rb ea eb
    obtain ⟨a, dx, ev, hF, h1⟩ := id ra
    subst ev
    obtain rfl : ua = Value.ref a := ea
    obtain ⟨mA, O, _⟩ := ins_get I.hok h1
    obtain ⟨od, J, _⟩ := O.look
    obtain ⟨T, L, m, _, _⟩ := side (A := X.A) (E := X.xe) Fq I O.obj ok rb eb
    cases neg with
    | false => exact right_eq Fq I.kIn J hu L.ty m L.eq r1
    | true => exact right_ne Fq I.kIn J hu L.ty m L.ne r2
  have leftS : ∀ {g sp : Int} {b : D} {va vb : V} {ua ub : Value}, sideOk b = true → Pt (gx X C) W (RD (gx X C)) σ H Q (bnd (callD df [.hall g sp, b]) (boolR neg)) B F env → Rp (gx X C) F H (.hall g sp) va → Rp (gx X C) F H b vb → RelV va ua → RelV vb ub →
      wpAny (model X.prog X.w) X.A (compareOp (cmpO neg) ua ub) (EP X pins σ Q) X.xe s := by
    intro g sp b va vb ua ub ok q ra rb ea eb
    obtain ⟨a, dx, ev, hF, h1⟩ := id ra
    subst ev
    obtain ⟨mA, O, _⟩ := ins_get I.hok h1
    obtain ⟨T, L, m, sb, ty⟩ := side (A := X.A) (E := X.xe) Fq I O.obj ok rb eb
    exact left ty (.inr sb) q ra rb ea eb
  by_cases h1 : ∃ g sp, d1 = .hall g sp
  · obtain ⟨g, sp, e⟩ := h1
    subst e
    by_cases h2 : ∃ g' sp', d2 = .hall g' sp'
    · obtain ⟨g', sp', e⟩ := h2
      subst e
      have q : Pt (gx X C) W (RD (gx X C)) σ H Q (bnd (callD df [.hall g sp, .hall g' sp']) (boolR neg)) B F env := q
      obtain ⟨a, dx, ev, hF, hh⟩ := id p2
      subst ev
      obtain rfl : u2 = Value.ref a := e2
      obtain ⟨mA, O, _⟩ := ins_get I.hok hh
      obtain ⟨od, J, _⟩ := O.look
      exact left J.type (.inl rfl) q p1 p2 e1 rfl
    · have e : heqM df neg (.hall g sp) d2 = ask (sideOk d2 = true) (bnd (callD df [.hall g sp, d2]) (boolR neg)) := by
        cases d2 with
        | hall g' sp' => exact absurd ⟨g', sp', rfl⟩ h2
        | _ => rfl
      rw [e] at q
      obtain ⟨ok, q⟩ := q.asked
      exact leftS ok q p1 p2 e1 e2
  · by_cases h2 : ∃ g' sp', d2 = .hall g' sp'
    · obtain ⟨g', sp', e⟩ := h2
      subst e
      have e : heqM df neg d1 (.hall g' sp') = ask (sideOk d1 = true) (bnd (callD df [.hall g' sp', d1]) (boolR neg)) := by
        cases d1 with
        | hall g sp => exact absurd ⟨g, sp, rfl⟩ h1
        | _ => rfl
      rw [e] at q
      obtain ⟨ok, q⟩ := q.asked
      exact right ok q p2 p1 e2 e1
    · have e : heqM df neg d1 d2 = fail := by
        cases d1 with
        | hall g sp => exact absurd ⟨g, sp, rfl⟩ h1
        | _ =>
          cases d2 with
          | hall g sp => exact absurd ⟨g, sp, rfl⟩ h2
          | _ => rfl
      rw [e] at q
      exact (Pt.no q).elim
variable {a b : Expr} {ma mb : M D} {pos : Pos}
theorem e_heq (Fn : FnG X.prog X.w X.K X.mg X.base k f fd ps (spD (gx X C) 2 df)) (Fq : EqF X.K C f) (hb : Binds X.K fd ps []) (hn : 2 = ps.length) (hr : Room (k + 1) X.A) (hG : X.A.guards = some []) (tk : L2N.Takes X W) (neg : Bool) (ha : PE X a (tD (gx X C) W ma)) (hbb : PE X b (tD (gx X C) W mb)) (hm : behindInMarks (cmpO neg) b = false) :
    PE X (.Compare a [cmpO neg] [b] pos) (tD (gx X C) W (do2 ma mb (heqM df neg))) :=
  ⟨fun pins s σ H Q I h => wpAny_Compare1 (thn (ha.run pins s σ H _ I (lift1 (Ra := RD (gx X C)) h)) fun v s1 ⟨x, H1, I1, r1, B, F, env, d1, pt, rd⟩ => thn (hbb.run pins s1 σ H1 _ I1 (pt.bind (Ra := RD (gx X C)) (as := [d1]) (xs := [x]) ⟨_, [], rfl, rd, rfl⟩)) fun u s2 ⟨y, H2, I2, r2, F2, env2, d2, pt2, ⟨x', r', e', rd', _⟩, rd2⟩ => by
    cases e'
    exact heq_run Fn Fq hb hn hr hG tk I2 pt2 rd' rd2 r1 r2) hm⟩
theorem t_heq (Fn : FnG X.prog X.w X.K X.mg X.base k f fd ps (spD (gx X C) 2 df)) (Fq : EqF X.K C f) (hb : Binds X.K fd ps []) (hn : 2 = ps.length) (hr : Room (k + 1) X.A) (hG : X.A.guards = some []) (tk : L2N.Takes X W) (neg : Bool) (ha : PE X a (tD (gx X C) W ma)) (hbb : PE X b (tD (gx X C) W mb)) (hm : behindInMarks (cmpO neg) b = false) :
    PT X (.Compare a [cmpO neg] [b] pos) (tBl (gx X C) W (do2 ma mb fun x y => bnd (heqM df neg x y) asB)) := by
  refine ⟨fun pins s σ H Q I h => ?_⟩
  refine wpAny_isTrue_Compare1 (thn (ha.run pins s σ H _ I (lift1 (Ra := RD (gx X C)) h)) fun v s1 ⟨x, H1, I1, r1, B, F, env, d1, pt, rd⟩ => thn (hbb.run pins s1 σ H1 _ I1 (pt.bind (Ra := RD (gx X C)) (as := [d1]) (xs := [x]) ⟨_, [], rfl, rd, rfl⟩)) fun u s2 ⟨y, H2, I2, r2, F2, env2, d2, pt2, ⟨x', r', e', rd', _⟩, rd2⟩ => ?_) hm
  cases e'
  refine thn (heq_run (Q := fun v H' => ∃ c, v = .bl c ∧ Q c H') Fn Fq hb hn hr hG tk I2 pt2.asb rd' rd2 r1 r2) fun c s3 ⟨z, H3, I3, r3, cc, e, q3⟩ => ?_
  subst e
  cases r3
  exact wpAny_truthy_bool ⟨H3, I3, q3⟩
end
end DL
namespace HE
open PySem PySem.Spec PyProof.Rows L2
section
variable {prog : Program} {w : World} {A : Around} {E : Value → Shared → Prop} {s : Shared} {l x y : Addr} {n : Nat} {items : Array Value} {dd : Option Addr} {sl : Array (Option Value)}
/-- an object of a list of one -/
def one (items : Array Value) (n : Nat) (dd : Option Addr) (sl : Array (Option Value)) : Obj := { cls := .type "list", dict := dd, data := .seq items n, slots := sl }
theorem loop_end (x : Value) (R : Result → Shared → Prop) (h1 : items[(1 : Int).toNat]? = none) (hl : s.heap.get? l = some (one items n dd sl)) (h : R (.ok (.ret (.bool false))) s) :
    wpAny (model prog w) A.in1 (Builtin.«list.__contains__.loop» ⟨[.ref l, x, rawInt 1], []⟩) (fun fin s' => match fin with | .done f => R (.ok f) s' | .again c' => c'.quiet = true ∧ codeAny (model prog w) A c' R s') (fun e s' => R (.error e) s') s := by
  obtain ⟨hp, g, d, tk, os⟩ := s
  unfold one at hl
  wp_walk using wpAny_loadPart' hl
  rw [h1]
  wp_walk
  exact h
theorem loop_one (x y : Value) (R : Result → Shared → Prop) (h0 : items[(0 : Int).toNat]? = some y) (h1 : items[(1 : Int).toNat]? = none) (hl : s.heap.get? l = some (one items n dd sl))
    (h : wpAny (model prog w) A.in1 (eqBool y x) (fun b s' => (∃ n', s'.heap.get? l = some (one items n' dd sl)) ∧ R (.ok (.ret (.bool b))) s') (fun e s' => R (.error e) s') s) :
    wpAny (model prog w) A.in1 (Builtin.«list.__contains__.loop» ⟨[.ref l, x, rawInt 0], []⟩) (fun fin s' => match fin with | .done f => R (.ok f) s' | .again c' => c'.quiet = true ∧ codeAny (model prog w) A c' R s') (fun e s' => R (.error e) s') s := by
  obtain ⟨hp, g, d, tk, os⟩ := s
  have hl' := hl
  unfold one at hl'
  wp_walk using wpAny_loadPart' hl'
  rw [h0]
  refine wpAny_bind (wpAny_mono h (fun b s' hb => ?_) fun _ _ e => e)
  obtain ⟨⟨n', k1⟩, h2⟩ := hb
  cases b with
  | true => wp_walk; exact h2
  | false =>
    wp_walk
    exact ⟨plainId_quiet MeetsSeq.plain_contains_loop _, codeAny_builtin MeetsSeq.entry_contains_loop (by
      rw [Around.under_plainId MeetsSeq.plain_contains_loop _]
      exact (show (0 : Int) + 1 = 1 from rfl) ▸ loop_end (A := A) x R h1 k1 h2)⟩
theorem in_one {Q : Value → Shared → Prop} (x y : Value) (h0 : items[(0 : Int).toNat]? = some y) (h1 : items[(1 : Int).toNat]? = none) (hl : s.heap.get? l = some (one items n dd sl))
    (h : wpAny (model prog w) A.in1 (eqBool y x) (fun b s' => (∃ n', s'.heap.get? l = some (one items n' dd sl)) ∧ Q (.bool b) s') E s) : wpAny (model prog w) A (compareOp .In x (.ref l)) Q E s := by
  have hT : s.TypeIs (.ref l) "list" := ⟨_, hl, rfl⟩
  show wpAny _ A (do return .bool (← contains (.ref l) x)) Q E s
  refine wpAny_bind (wpAny_contains_slot hT PySem.F.slot_list_contains (wpAny_mono (Q := fun v s' => ∃ b, v = .bool b ∧ Q (.bool b) s') (wpAny_call (codeAny_call_builtin PySem.F.slot_list_contains.plain PySem.F.entry_list_contains (PySem.F.slot_list_contains.check _ _ _ _ _ _ _ _ hT (PySem.F.args_list_contains_2 _ _) ?_))) (fun v s' hv => ?_) fun _ _ e => e))
  · obtain ⟨hp, g, d, tk, os⟩ := s
    have hl' := hl
    unfold one at hl'
    wp_walk using wpAny_loadPart' hl'
    exact ⟨plainId_quiet MeetsSeq.plain_contains_loop _, codeAny_builtin MeetsSeq.entry_contains_loop (by
      rw [Around.under_plainId MeetsSeq.plain_contains_loop _]
      exact loop_one x y (fun r s' => match r with | .ok (.ret v) => ∃ b, v = .bool b ∧ Q (.bool b) s' | .ok _ => False | .error e => E e s') h0 h1 hl (wpAny_mono h (fun b s' ⟨k1, k2⟩ => ⟨k1, b, rfl, k2⟩) fun _ _ e => e))⟩
  · obtain ⟨b, rfl, hq⟩ := hv
    exact wpAny_truthy_bool (wpAny_pure hq)
theorem eqBool_refs {P : Bool → Shared → Prop} (h1 : y = x → P true s) (h2 : y ≠ x → wpAny (model prog w) A (compareOp .Eq (.ref y) (.ref x)) (fun v s' => ∃ c, v = .bool c ∧ P c s') E s) : wpAny (model prog w) A (eqBool (.ref y) (.ref x)) P E s := by
  unfold eqBool
  refine wpAny_holding ?_
  by_cases e : y = x
  · subst e
    rw [if_pos (by simp)]
    exact wpAny_bind (wpAny_rule (wpAny_pure (h1 rfl)))
  · rw [if_neg (by simpa using e)]
    refine wpAny_bind (wpAny_mono (show wpAny (model prog w) A (richCompare .Eq (.ref y) (.ref x)) _ E s from h2 e) (fun v s' hv => ?_) fun _ _ z => z)
    obtain ⟨c, rfl, hp⟩ := hv
    exact wpAny_truthy_bool hp
end
end HE
namespace HE
open PySem PySem.Spec PyProof.Rows L2
section
variable [DL.Tbs] {prog : Program} {w : World} {A : Around} {E : Value → Shared → Prop} {s : Shared} {x C f : Addr} {K : PySem.W.Frag} {od : Option Obj} {ox : Obj}
/-- a Hall as a truth: by its length -/
theorem tru_inst (X : K.In s.heap) (I : PySem.W.InstAt s.heap x ox C od) (hb : PySem.W.findIn K (.ref C) "__bool__" = some none) (hl : PySem.W.findIn K (.ref C) "__len__" = some (some (.ref f))) (hf : PySem.W.typeIn K (.ref f) = some (.type "function")) {Q : Bool → Shared → Prop}
    (h : wpAny (model prog w) A.in1 (call (.ref f) [.ref x]) (fun r s' => ∃ n u, r = .int n u ∧ 0 ≤ n ∧ n < 2 ^ 63 ∧ Q (n != 0) { s' with toks := s'.toks + 1 }) E s) : wpAny (model prog w) A (truthy (.ref x)) Q E s := by
  have key : wpAny (model prog w) A (runValue (.builtin "len" ⟨[.ref x], []⟩)) (fun r s' => ∃ n u, r = .int n u ∧ Q (n != 0) s') E s := by
    refine wpAny_runValue (codeAny_builtin entry_len ?_)
    rw [Around.under_plainId plain_len _]
    unfold Builtin.«len»
    refine wpAny_bind (m := oneArg "len" _) (wpAny_pure (wpAny_bind (m := callSpecial? (.ref x) (Str.ofString "__len__")) (DL.special_def X I hl hf (wpAny_mono h (fun r s' hr => ?_) fun _ _ y => y))))
    obtain ⟨n, u, rfl, h0, h1, hq⟩ := hr
    refine wpAny_bind (wpAny_holding (wpAny_pure (wpAny_bind (wpAny_letGo ?_))))
    show wpAny _ _ (if n < 0 then _ else _) _ _ _
    rw [if_neg (by omega)]
    show wpAny _ _ (if n ≥ 2 ^ 63 then _ else _) _ _ _
    rw [if_neg (by omega)]
    exact wpAny_bind (wpAny_mkInt (wpAny_pure ⟨_, _, rfl, hq⟩))
  unfold truthy
  refine wpAny_bind (m := callSpecial? (.ref x) (Str.ofString "__bool__")) (wpAny_bind (wpAny_bind (I.type.here ((PySem.W.looks_findIn X hb).here (wpAny_pure ?_)))))
  refine wpAny_bind (wpAny_bind (I.type.here ((PySem.W.looks_findIn X hl).here ?_)))
  exact wpAny_bind (wpAny_mono key (fun r s' h' => by obtain ⟨n, u, rfl, hq⟩ := h'; exact wpAny_pure hq) fun _ _ e => e)
end
end HE
namespace DL
open PySem PySem.Spec PyProof.Rows L2 HE
variable [Tbs]
section
variable {X : Cx} {C : Addr} {W : WX} {pins : List (Addr × Obj)} {σ : L2.St} {H : Hp} {s : Shared} {B F : Addr → Prop} {env : List Slot} {Q : V → Hp → Prop} {k : Nat} {f : Addr} {fd : FuncData} {ps : List Str} {df : DF} {a b : Expr} {ma mb : M D} {pos : Pos}
theorem t_htru (Fn : FnG X.prog X.w X.K X.mg X.base k f fd ps (spD (gx X C) 1 df)) (hr : Room (k + 1) X.A) (hG : X.A.guards = some []) (tk : L2N.Takes X W) (hm : Meth X.K C "__len__" f) (hbl : PySem.W.findIn X.K (.ref C) "__bool__" = some none) (hb : Binds X.K fd ps []) (hn : 1 = ps.length) (ha : PE X a (tD (gx X C) W ma))
    (he : ∀ whole, isTrue a X.env whole = (do let v ← whole; standAt a.pos; holding [v] (truthy v)) := by intro _; rfl) : PT X a (tBl (gx X C) W (bnd (bnd (bnd ma (hcallM df)) lenR) truD)) := by
  refine ⟨fun pins s σ H Q I h => ?_⟩
  refine isTrue_plain (thn (ha.run pins s σ H _ I (lift1 (Ra := RD (gx X C)) h)) fun v s1 ⟨x, H1, I1, r1, B, F, env, d, q, rd⟩ => ?_) (he _)
  cases d with
  | hall g sp =>
    obtain ⟨a, dx, ea, hF, h1⟩ := id rd
    subst ea
    obtain rfl : v = Value.ref a := r1
    obtain ⟨mA, O, _⟩ := ins_get I1.hok h1
    obtain ⟨od, J, _⟩ := O.look
    have q : Pt (gx X C) W RB σ H1 Q (bnd (callD df [.hall g sp]) fun r => bnd (lenR r) truD) B F env := q
    refine tru_inst I1.kIn J hbl hm.at_ (beq_iff_eq.mp hm.fn) ?_
    have hb' := hb s1 [.ref a] I1.kIn (by rw [List.append_nil]; exact hn)
    rw [List.append_nil] at hb'
    have pc := (q.bindP (Ra := RRs (gx X C)) (as := []) (xs := []) rfl).imp fun v H2 ⟨F2, env2, r2, p2, _, rr2⟩ => show ∃ n, v = V.int n ∧ 0 ≤ n ∧ n < 2 ^ 63 ∧ Q (n != 0) H2 from by
      cases r2 with
      | d d =>
        cases d with
        | int n =>
          have p3 : Pt (gx X C) W RB σ H2 Q (ask (0 ≤ n ∧ n < 2 ^ 63) (ret (n != 0))) B F2 env2 := p2
          obtain ⟨⟨z1, z2⟩, p3⟩ := p3.asked
          exact ⟨n, rr2, z1, z2, p3.pure rfl⟩
        | _ => exact (Pt.no p2).elim
      | o o => exact (Pt.no p2).elim
    have e1 : Env0 X.prog X.w X.K X.mg X.base X.A.in1 X.stack s1 H1 := let e := I1.env0; ⟨e.frames, e.mod, e.bs, e.bsz, e.funs, e.frf, e.hok, e.bare⟩
    refine wpAny_call (codeAny_mono (Fn.run X.A.in1 X.stack s1 H1 ⟨[.ref a], []⟩ [.ref a] [.ref a] _ (WE W σ) hr.in1 hG e1 hb' (.cons rfl .nil) (Pt.callD (vs := [.ref a]) pc ⟨_, [], rfl, rd, rfl⟩ rfl)) fun rr s' hq => ?_)
    match rr, hq with
    | .error ex, hq => exact L2N.passAt tk σ pins H1 s1 ex s' I1 hq
    | .ok (.ret w), hq =>
      obtain ⟨v, H2, I2, rv, n, ev, z1, z2, qq⟩ := I1.after hq
      subst ev
      obtain ⟨t, rfl⟩ := rv
      exact ⟨n, t, rfl, z1, z2, H2, I2.tok _, qq⟩
    | .ok .next, hq => exact hq.elim
    | .ok .brk, hq => exact hq.elim
    | .ok .cont, hq => exact hq.elim
  | _ => exact (Pt.unknown (k := fun r => bnd (lenR r) truD) q).elim
/-- what == of Halls tells -/
def EqOk (df : DF) : Prop := ∀ g sp g' sp' Q E, df [.im (.hall g sp), .im (.hall g' sp')] Q E = Q (.d (.bl (decide (g = g' ∧ sp = sp')))) [.im (.hall g sp), .im (.hall g' sp')]
/-- a Hall in a list of one -/
def hinM (df : DF) (x y : D) : M D := match x, y with
  | .hall g sp, .lst [.hall g' sp'] => ask (EqOk df) (ret (.bl (decide (g' = g ∧ sp' = sp))))
  | _, _ => fail
theorem hin_run {d1 d2 : D} {v1 v2 : V} {u1 u2 : Value} (Fn : FnG X.prog X.w X.K X.mg X.base k f fd ps (spD (gx X C) 2 df)) (Fq : EqF X.K C f) (hb : Binds X.K fd ps []) (hn : 2 = ps.length) (hr : Room (k + 2) X.A) (hG : X.A.guards = some []) (tk : L2N.Takes X W) (I : Inv X pins σ H s)
    (q : Pt (gx X C) W (RD (gx X C)) σ H Q (hinM df d1 d2) B F env) (p1 : Rp (gx X C) F H d1 v1) (p2 : Rp (gx X C) F H d2 v2) (e1 : RelV v1 u1) (e2 : RelV v2 u2) :
    wpAny (model X.prog X.w) X.A (compareOp .In u1 u2) (EP X pins σ Q) X.xe s := by
  by_cases hh : ∃ g sp g' sp', d1 = .hall g sp ∧ d2 = .lst [.hall g' sp']
  · obtain ⟨g, sp, g', sp', ed1, ed2⟩ := hh
    subst ed1 ed2
    have q : Pt (gx X C) W (RD (gx X C)) σ H Q (ask (EqOk df) (ret (.bl (decide (g' = g ∧ sp' = sp))))) B F env := q
    obtain ⟨ok, q⟩ := q.asked
    obtain ⟨ax, dx, ev, hFx, h1⟩ := id p1
    subst ev
    obtain rfl : u1 = Value.ref ax := e1
    obtain ⟨l, vs, ev, hFl, hl, hv⟩ := id p2
    subst ev
    obtain rfl : u2 = Value.ref l := e2
    obtain ⟨vy, vr, evs, ry, er⟩ := hv
    obtain rfl : vr = [] := er
    subst evs
    obtain ⟨ay, dy, ey, hFy, h2⟩ := id ry
    subst ey
    obtain ⟨zl, us, n, rv, lo⟩ := lst_look I hl
    cases rv with
    | cons rva rvb =>
      cases rvb
      rename_i uy
      obtain rfl : uy = Value.ref ay := rva
      obtain ⟨Qd, Ed, rel, hm1, hq, hex⟩ := q
      obtain ⟨mAx, Ox, _⟩ := ins_get I.hok h1
      obtain ⟨odx, Jx, _⟩ := Ox.look
      obtain ⟨mAy, Oy, _⟩ := ins_get I.hok h2
      obtain ⟨ody, Jy, _⟩ := Oy.look
      have hu : X.A.in1.units + 1 < cLine := by have := hr.un; show X.A.units + 1 + 1 < cLine; omega
      have e0 : Env0 X.prog X.w X.K X.mg X.base X.A.in1 X.stack s H := let e := I.env0; ⟨e.frames, e.mod, e.bs, e.bsz, e.funs, e.frf, e.hok, e.bare⟩
      refine in_one (n := n) (items := #[.ref ay]) (dd := none) (sl := #[]) (.ref ax) (.ref ay) rfl rfl lo (eqBool_refs (fun e => ?_) fun e => ?_)
      · subst e
        rw [h1] at h2
        injection h2 with h2
        injection h2 with _ _ fs
        simp only [List.cons.injEq, Prod.mk.injEq, V.int.injEq, and_true, true_and] at fs
        refine ⟨⟨n, lo⟩, .bl true, H, I, rfl, ?_⟩
        have := hq (.bl (decide (g' = g ∧ sp' = sp))) env (.bl (decide (g' = g ∧ sp' = sp))) F H hm1 Stp.refl rel rfl
        rw [decide_eq_true ⟨fs.1.symm, fs.2.symm⟩] at this
        exact this
      · refine left_eq Fq I.kIn Jy hu Jx.type (.inl rfl) ?_
        have pc : Pt (gx X C) W (RRs (gx X C)) σ H (fun v H' => ∃ F', v = .bl (decide (g' = g ∧ sp' = sp)) ∧ Stp B F H F' H' ∧ Rel (gx X C) B F' σ env H') (callD df [.hall g' sp', .hall g sp]) B F env := by
          refine ⟨fun r env' => r = .d (.bl (decide (g' = g ∧ sp' = sp))) ∧ env' = env, fun _ _ => False, rel, ?_, ?_, fun _ _ _ _ _ _ z => z.elim⟩
          · show df [.im (.hall g' sp'), .im (.hall g sp)] _ _
            rw [ok]
            exact ⟨rfl, rfl⟩
          · rintro rr env' b F' H' ⟨er, ee⟩ st rl rb
            subst er ee
            exact ⟨F', rb, st, rl⟩
        have hb' := hb s [.ref ay, .ref ax] I.kIn (by rw [List.append_nil]; exact hn)
        rw [List.append_nil] at hb'
        refine wpAny_call (codeAny_mono (Fn.run X.A.in1 X.stack s H ⟨[.ref ay, .ref ax], []⟩ [.ref ay, .ref ax] [.ref ay, .ref ax] _ (WE W σ) (hr.mono (by omega)).in1 hG e0 hb' (.cons rfl (.cons rfl .nil)) (Pt.callD (vs := [.ref ay, .ref ax]) pc ⟨_, _, rfl, ry, _, [], rfl, p1, rfl⟩ rfl)) fun rr s' hq' => ?_)
        match rr, hq' with
        | .error ex, hq' => exact L2N.passAt tk σ pins H s ex s' I hq'
        | .ok (.ret w), hq' =>
          obtain ⟨v, H2, I2, rv2, F', ev, st, rl⟩ := I.after hq'
          subst ev
          obtain rfl : w = Value.bool _ := rv2
          have hl2 : H2 l = some (.lst [.ref ay]) := st.hk l _ (.inr hFl) hl
          obtain ⟨_, us2, n2, rv3, lo2⟩ := lst_look I2 hl2
          cases rv3 with
          | cons q1 q2 =>
            cases q2
            rename_i uz
            obtain rfl : uz = Value.ref ay := q1
            exact ⟨_, rfl, _, rfl, ⟨n2, lo2⟩, .bl _, H2, I2, rfl, hq (.bl (decide (g' = g ∧ sp' = sp))) env (.bl _) F' H2 hm1 st rl rfl⟩
        | .ok .next, hq' => exact hq'.elim
        | .ok .brk, hq' => exact hq'.elim
        | .ok .cont, hq' => exact hq'.elim
  · have e : hinM df d1 d2 = fail := by
      unfold hinM
      split
      · rename_i g sp g' sp'
        exact absurd ⟨g, sp, g', sp', rfl, rfl⟩ hh
      · rfl
    rw [e] at q
    exact (Pt.no q).elim
theorem e_hin (Fn : FnG X.prog X.w X.K X.mg X.base k f fd ps (spD (gx X C) 2 df)) (Fq : EqF X.K C f) (hb : Binds X.K fd ps []) (hn : 2 = ps.length) (hr : Room (k + 2) X.A) (hG : X.A.guards = some []) (tk : L2N.Takes X W) (ha : PE X a (tD (gx X C) W ma)) (hbb : PE X b (tD (gx X C) W mb)) (hm : behindInMarks .In b = false) :
    PE X (.Compare a [.In] [b] pos) (tD (gx X C) W (do2 ma mb (hinM df))) :=
  ⟨fun pins s σ H Q I h => wpAny_Compare1 (thn (ha.run pins s σ H _ I (lift1 (Ra := RD (gx X C)) h)) fun v s1 ⟨x, H1, I1, r1, B, F, env, d1, pt, rd⟩ => thn (hbb.run pins s1 σ H1 _ I1 (pt.bind (Ra := RD (gx X C)) (as := [d1]) (xs := [x]) ⟨_, [], rfl, rd, rfl⟩)) fun u s2 ⟨y, H2, I2, r2, F2, env2, d2, pt2, ⟨x', r', e', rd', _⟩, rd2⟩ => by
    cases e'
    exact hin_run Fn Fq hb hn hr hG tk I2 pt2 rd' rd2 r1 r2) hm⟩
end
end DL


set_option Elab.async false
set_option linter.all false
set_option maxRecDepth 100000
set_option maxHeartbeats 4000000
namespace DL
open PySem PySem.Spec PyProof.Rows L2
/-- the plain lemmas say nothing of tables -/
instance tbs0 : Tbs := ⟨[]⟩
/-! ### how a program over data is worked out -/
section
variable {α β : Type} {env : List DL.Slot} {E : Exn → List DL.Slot → Prop}
theorem bnd_ap (m : M α) (k : α → M β) (Q : β → List DL.Slot → Prop) : bnd m k env Q E = m env (fun a env' => k a env' Q E) E := rfl
theorem ret_ap (a : α) (Q : α → List DL.Slot → Prop) : DL.ret a env Q E = Q a env := rfl
theorem ask_ap (p : Prop) (m : M α) (Q : α → List DL.Slot → Prop) : ask p m env Q E = (p ∧ m env Q E) := rfl
theorem fail_ap (Q : α → List DL.Slot → Prop) : (fail : M α) env Q E = False := rfl
theorem ite_ap (c : Prop) [Decidable c] (m n : M α) (Q : α → List DL.Slot → Prop) : (if c then m else n) env Q E = if c then m env Q E else n env Q E := by split <;> rfl
end
theorem getElem?_0 {α : Type} (a : α) (l : List α) : (a :: l)[0]? = some a := rfl
theorem getElem?_s {α : Type} (a : α) (l : List α) (n : Nat) : (a :: l)[n + 1]? = l[n]? := rfl
theorem pick_eq {α : Type} (idx : List Nat) (us ws : List α) : pick idx us ws = idx.filterMap fun i => (us ++ ws)[i]? := rfl
theorem at3_0 {α : Type} (x y z : α) : atI [x, y, z] 0 = some x := rfl
theorem at3_1 {α : Type} (x y z : α) : atI [x, y, z] 1 = some y := rfl
theorem at3_2 {α : Type} (x y z : α) : atI [x, y, z] 2 = some z := rfl
theorem ix3_0 : ixN 3 0 = some 0 := rfl
theorem ix3_1 : ixN 3 1 = some 1 := rfl
theorem ix3_2 : ixN 3 2 = some 2 := rfl

/-! ### comprehensions -/
theorem wipeE_len {e : List DL.Slot} : ∀ {vs : List Nat}, (wipeE e vs).length = e.length
  | [] => rfl
  | v :: vs => by show ((wipeE e vs).set v _).length = _; rw [List.length_set, wipeE_len]
theorem wipeE_out {e : List DL.Slot} {j : Nat} : ∀ {vs : List Nat}, j ∉ vs → (wipeE e vs)[j]? = e[j]?
  | [], _ => rfl
  | v :: vs, h => by
    show ((wipeE e vs).set v _)[j]? = _
    rw [List.getElem?_set_ne fun z => h (by simp [z]), wipeE_out fun z => h (List.mem_cons_of_mem _ z)]
theorem backE_wipe {e0 e e' : List DL.Slot} {vs : List Nat} (h : wipeE e vs = wipeE e' vs) : backE e0 e vs = backE e0 e' vs := by
  have hl : e.length = e'.length := by have := congrArg List.length h; rwa [wipeE_len, wipeE_len] at this
  refine List.ext_getElem? fun j => ?_
  by_cases hj : j ∈ vs
  · by_cases hl' : j < e.length
    · have a : j < (backE e0 e vs).length := by rw [backE_len]; exact hl'
      have b : j < (backE e0 e' vs).length := by rw [backE_len]; omega
      rw [List.getElem?_eq_getElem a, List.getElem?_eq_getElem b]
      rw [backE_in hj (List.getElem?_eq_getElem a), backE_in hj (List.getElem?_eq_getElem b)]
    · rw [List.getElem?_eq_none (by rw [backE_len]; omega), List.getElem?_eq_none (by rw [backE_len]; omega)]
  · rw [backE_out hj, backE_out hj, ← wipeE_out hj, h, wipeE_out hj]
theorem compL_eq {tg : D → M Unit} {vs : List Nat} {cond : M Bool} {elt : M D} {P : D → Bool} {f : D → D} {W : List DL.Slot} {E : Exn → List DL.Slot → Prop} {Q : List D → List DL.Slot → Prop} (hQ : ∀ acc e e', wipeE e vs = wipeE e' vs → Q acc e = Q acc e') :
    ∀ (ds acc : List D) (env : List DL.Slot), wipeE env vs = W → acc.length + ds.length ≤ 1000000 → (∀ d ∈ ds, ∃ e1, wipeE e1 vs = W ∧ (∀ Q E, tg d W Q E = Q () e1) ∧ (∀ Q E, cond e1 Q E = Q (P d) e1) ∧ (P d = true → ∀ Q E, elt e1 Q E = Q (f d) e1)) →
      compL tg vs cond elt ds acc env Q E = Q (acc ++ (ds.filter P).map f) env
  | [], acc, env, hw, hl, ht => by simp [compL, DL.ret]
  | d :: ds, acc, env, hw, hl, ht => by
    obtain ⟨e1, w1, t1, t2, t3⟩ := ht d (by simp)
    have rest := fun acc' (h : acc'.length + ds.length ≤ 1000000) => compL_eq (E := E) hQ ds acc' e1 w1 h fun d' h' => ht d' (List.mem_cons_of_mem _ h')
    show tg d (wipeE env vs) (fun _ e => cond e (fun c e2 => (if c = true then bnd elt fun y => ask (acc.length < sizeLine) (compL tg vs cond elt ds (acc ++ [y])) else compL tg vs cond elt ds acc) e2 Q E) E) E = _
    rw [hw, t1, t2]
    rw [List.length_cons] at hl
    cases p : P d with
    | false =>
      rw [if_neg Bool.false_ne_true, rest acc (by omega), List.filter_cons, p, if_neg Bool.false_ne_true]
      exact hQ _ _ _ (w1.trans hw.symm)
    | true =>
      rw [if_pos rfl]
      show elt e1 (fun y e3 => acc.length < sizeLine ∧ compL tg vs cond elt ds (acc ++ [y]) e3 Q E) E = _
      have sz : acc.length < sizeLine := by rw [sizeLine_eq]; omega
      rw [t3 p, rest (acc ++ [f d]) (by rw [List.length_append]; simp; omega), List.filter_cons, p, if_pos rfl, List.map_cons, List.append_assoc, List.singleton_append]
      rw [show (acc.length < sizeLine) = True from eq_true sz, true_and]
      exact hQ _ _ _ (w1.trans hw.symm)
theorem compM_eq {items : M (List D)} {tg : D → M Unit} {vs : List Nat} {cond : M Bool} {elt : M D} {env : List DL.Slot} (ds : List D) (P : D → Bool) (f : D → D) (hi : ∀ Q E, items env Q E = Q ds env) (hl : ds.length ≤ 1000000)
    (turn : ∀ d ∈ ds, ∃ e1, wipeE e1 vs = wipeE env vs ∧ (∀ Q E, tg d (wipeE env vs) Q E = Q () e1) ∧ (∀ Q E, cond e1 Q E = Q (P d) e1) ∧ (P d = true → ∀ Q E, elt e1 Q E = Q (f d) e1)) (Q E) :
    compM items tg vs cond elt env Q E = Q (.lst ((ds.filter P).map f)) (backE env env vs) := by
  show items env (fun ds env1 => compL tg vs cond elt ds [] env1 (fun acc env2 => Q (.lst acc) (backE env1 env2 vs)) fun _ _ => False) E = _
  rw [hi, compL_eq (fun acc e e' h => by rw [backE_wipe h]) ds [] env rfl (by simpa using hl) turn, List.nil_append]
theorem forL_nil (tg : D → M Unit) (m : M Fl) (env : List DL.Slot) (Q E) : forL tg m [] env Q E = Q .nx env := rfl
theorem forL_cons (tg : D → M Unit) (m : M Fl) (d : D) (ds : List D) (env : List DL.Slot) (Q E) : forL tg m (d :: ds) env Q E = tg d env (fun _ e1 => m e1 (fun f e2 => loopK (forL tg m ds) f e2 Q E) E) E := rfl
theorem loopK_nx (a : M Fl) (env : List DL.Slot) (Q E) : loopK a .nx env Q E = a env Q E := rfl
theorem loopK_rt (a : M Fl) (r : Res) (env : List DL.Slot) (Q E) : loopK a (.rt r) env Q E = Q (.rt r) env := rfl

section
variable {env : List DL.Slot} {Q : D → List DL.Slot → Prop} {E : Exn → List DL.Slot → Prop}
theorem eqv_ii (a b : Int) : eqv (.int a) (.int b) = (a == b) := rfl
theorem eqM_ii (a b : Int) : eqM (.int a) (.int b) env Q E = Q (.bl (a == b)) env := by show ((_ ∧ _) ∧ _) = _; simp only [show eqOk (.int a) = true from rfl, show eqOk (.int b) = true from rfl, true_and]; rfl
theorem eqM_ni (b : Int) : eqM .non (.int b) env Q E = Q (.bl false) env := by show ((_ ∧ _) ∧ _) = _; simp only [show eqOk .non = true from rfl, show eqOk (.int b) = true from rfl, true_and]; rfl
theorem eqM_in (a : Int) : eqM (.int a) .non env Q E = Q (.bl false) env := by show ((_ ∧ _) ∧ _) = _; simp only [show eqOk .non = true from rfl, show eqOk (.int a) = true from rfl, true_and]; rfl
theorem eqM_ss (a b : Str) : eqM (.str a) (.str b) env Q E = Q (.bl (a == b)) env := rfl
theorem neM_ii (a b : Int) : neM (.int a) (.int b) env Q E = Q (.bl (!(a == b))) env := by show ((_ ∧ _) ∧ _) = _; simp only [show eqOk (.int a) = true from rfl, show eqOk (.int b) = true from rfl, true_and]; rfl
theorem neM_ss (a b : Str) : neM (.str a) (.str b) env Q E = Q (.bl (!(a == b))) env := rfl
end
theorem sl0 : (0 ≤ sizeLine) = True := eq_true (by rw [sizeLine_eq]; decide)
theorem sl1 : (1 ≤ sizeLine) = True := eq_true (by rw [sizeLine_eq]; decide)
theorem sl2 : (2 ≤ sizeLine) = True := eq_true (by rw [sizeLine_eq]; decide)
theorem sl3 : (3 ≤ sizeLine) = True := eq_true (by rw [sizeLine_eq]; decide)
theorem sl4 : (4 ≤ sizeLine) = True := eq_true (by rw [sizeLine_eq]; decide)
theorem sl5 : (5 ≤ sizeLine) = True := eq_true (by rw [sizeLine_eq]; decide)
theorem sl6 : (6 ≤ sizeLine) = True := eq_true (by rw [sizeLine_eq]; decide)
theorem sl7 : (7 ≤ sizeLine) = True := eq_true (by rw [sizeLine_eq]; decide)
theorem sl8 : (8 ≤ sizeLine) = True := eq_true (by rw [sizeLine_eq]; decide)

theorem compL_n (tg : D → M Unit) (vs : List Nat) (cond : M Bool) (elt : M D) (acc : List D) (env : List DL.Slot) (Q E) : compL tg vs cond elt [] acc env Q E = Q acc env := rfl
theorem compL_c (tg : D → M Unit) (vs : List Nat) (cond : M Bool) (elt : M D) (d : D) (ds acc : List D) (env : List DL.Slot) (Q E) : compL tg vs cond elt (d :: ds) acc env Q E = tg d (wipeE env vs) (fun _ e => cond e (fun c e2 => if c = true then elt e2 (fun y e3 => acc.length < sizeLine ∧ compL tg vs cond elt ds (acc ++ [y]) e3 Q E) E else compL tg vs cond elt ds acc e2 Q E) E) E := by
  show tg d (wipeE env vs) (fun _ e => cond e (fun c e2 => (if c = true then bnd elt fun y => ask (acc.length < sizeLine) (compL tg vs cond elt ds (acc ++ [y])) else compL tg vs cond elt ds acc) e2 Q E) E) E = _
  congr 1
  funext _ e
  congr 1
  funext c e2
  cases c <;> rfl
theorem compM_ap (items : M (List D)) (tg : D → M Unit) (vs : List Nat) (cond : M Bool) (elt : M D) (env : List DL.Slot) (Q E) : compM items tg vs cond elt env Q E = items env (fun ds env1 => compL tg vs cond elt ds [] env1 (fun acc env2 => Q (.lst acc) (backE env1 env2 vs)) fun _ _ => False) E := rfl
theorem sm0 : (0 < sizeLine) = True := eq_true (by rw [sizeLine_eq]; decide)
theorem sm1 : (1 < sizeLine) = True := eq_true (by rw [sizeLine_eq]; decide)
theorem sm2 : (2 < sizeLine) = True := eq_true (by rw [sizeLine_eq]; decide)
theorem sm3 : (3 < sizeLine) = True := eq_true (by rw [sizeLine_eq]; decide)
theorem sm4 : (4 < sizeLine) = True := eq_true (by rw [sizeLine_eq]; decide)
theorem sm5 : (5 < sizeLine) = True := eq_true (by rw [sizeLine_eq]; decide)
theorem sm6 : (6 < sizeLine) = True := eq_true (by rw [sizeLine_eq]; decide)
theorem sm7 : (7 < sizeLine) = True := eq_true (by rw [sizeLine_eq]; decide)
theorem sm8 : (8 < sizeLine) = True := eq_true (by rw [sizeLine_eq]; decide)
end DL

set_option Elab.async false
set_option linter.all false
set_option maxRecDepth 100000
set_option maxHeartbeats 4000000
namespace DL
open PySem PySem.Spec PyProof.Rows L2
/-! ### small data may be shown -/
mutual
def smD : D → Bool
  | .non => true | .bl _ => true | .int i => decide (-1000000000 < i ∧ i < 1000000000)
  | .tup xs => smL xs | .lst xs => smL xs
  | _ => false
def smL : List D → Bool
  | [] => true
  | x :: xs => smD x && smL xs
end
mutual
theorem sm_ok : ∀ d : D, smD d = true → pyOk d = true ∧ (py d).showable = true ∧ (py d).hasDict = false ∧ (py d).leavesShort 13 = true
  | .non, _ => ⟨rfl, rfl, rfl, rfl⟩
  | .bl _, _ => ⟨rfl, rfl, rfl, rfl⟩
  | .int i, h => by
    have q : -1000000000 < i ∧ i < 1000000000 := by simpa [smD] using h
    refine ⟨rfl, ?_, rfl, ?_⟩
    · show decide (i.natAbs.log2 < 1920) = true
      refine decide_eq_true ?_
      have a : i.natAbs < 2 ^ 30 := by omega
      have := Nat.log2_lt (n := i.natAbs) (k := 30)
      by_cases z : i.natAbs = 0
      · rw [z]; decide
      · have := (Nat.log2_lt z).mpr a; omega
    · show decide ((PyData.shown (.int i)).length ≤ 13) = true
      exact decide_eq_true (PyData.shown_int_le2 (by omega) (by omega))
  | .str _, e => by cases e
  | .byt _, e => by cases e
  | .hall _ _, e => by cases e
  | .scr _, e => by cases e
  | .pr _, e => by cases e
  | .tup ds, h => smL_ok ds (by simpa [smD] using h)
  | .lst ds, h => smL_ok ds (by simpa [smD] using h)
theorem smL_ok : ∀ ds : List D, smL ds = true → pyOkL ds = true ∧ PyData.showableAll (pyL ds) = true ∧ PyData.hasDictAll (pyL ds) = false ∧ PyData.leavesShortAll 13 (pyL ds) = true
  | [], _ => ⟨rfl, rfl, rfl, rfl⟩
  | d :: ds, h => by
    have q : smD d = true ∧ smL ds = true := by simpa [smL] using h
    obtain ⟨a1, a2, a3, a4⟩ := sm_ok d q.1
    obtain ⟨b1, b2, b3, b4⟩ := smL_ok ds q.2
    refine ⟨?_, ?_, ?_, ?_⟩
    · show (pyOk d && pyOkL ds) = true; rw [a1, b1]; rfl
    · show ((py d).showable && PyData.showableAll (pyL ds)) = true; rw [a2, b2]; rfl
    · show ((py d).hasDict || PyData.hasDictAll (pyL ds)) = false; rw [a3, b3]; rfl
    · show ((py d).leavesShort 13 && PyData.leavesShortAll 13 (pyL ds)) = true; rw [a4, b4]; rfl
end
def repD (d : D) : Bool := compD d && smD d && decide ((py d).depth ≤ 64) && decide ((py d).bulk ≤ 1000000)
def shownD (d : D) : Str := (py d).shown
theorem reprD_ap {d : D} (h : repD d = true) (env : List DL.Slot) (Q E) : reprD d env Q E = Q (.str (shownD d)) env := by
  simp only [repD, Bool.and_eq_true, decide_eq_true_eq] at h
  obtain ⟨⟨⟨h1, h2⟩, h3⟩, h4⟩ := h
  obtain ⟨a1, a2, a3, a4⟩ := sm_ok d h2
  have s : shOk (py d) = true := by
    unfold shOk
    rw [a2, a3, a4, decide_eq_true h3, decide_eq_true (show (py d).bulk ≤ 2 ^ 20 by omega)]
    rfl
  show ((_ ∧ _ ∧ _) ∧ _) = _
  simp only [h1, a1, s, true_and]
  rfl
/-! rows -/
theorem smL_map {α : Type} {f : α → D} {l : List α} (h : ∀ a ∈ l, smD (f a) = true) : smL (l.map f) = true := by
  induction l with
  | nil => rfl
  | cons a l ih => show (smD (f a) && smL (l.map f)) = true; rw [h a (by simp), ih fun b hb => h b (List.mem_cons_of_mem _ hb)]; rfl
theorem bulkL_map {α : Type} {f : α → D} {n : Nat} {l : List α} (h : ∀ a ∈ l, (py (f a)).bulk ≤ n) : PyData.bulkAll (pyL (l.map f)) ≤ (n + 1) * l.length := by
  induction l with
  | nil => show 0 ≤ _; exact Nat.zero_le _
  | cons a l ih =>
    have h1 := h a (by simp)
    have h2 := ih fun b hb => h b (List.mem_cons_of_mem _ hb)
    show (py (f a)).bulk + 1 + PyData.bulkAll (pyL (l.map f)) ≤ (n + 1) * (l.length + 1)
    rw [Nat.mul_add]; omega
theorem depthL_map {α : Type} {f : α → D} {n : Nat} {l : List α} (h : ∀ a ∈ l, (py (f a)).depth ≤ n) : PyData.depthAll (pyL (l.map f)) ≤ n := by
  induction l with
  | nil => show 0 ≤ _; exact Nat.zero_le _
  | cons a l ih =>
    have h1 := h a (by simp)
    have h2 := ih fun b hb => h b (List.mem_cons_of_mem _ hb)
    show max (py (f a)).depth (PyData.depthAll (pyL (l.map f))) ≤ n
    omega
/-- a row's measures: small, depth at most n, bulk at most b -/
structure Row (d : D) (n b : Nat) : Prop where
  sm : smD d = true
  dp : (py d).depth ≤ n
  bk : (py d).bulk ≤ b
theorem Row.int {i : Int} (h : -1000000000 < i ∧ i < 1000000000) : Row (.int i) 0 0 := ⟨decide_eq_true h, Nat.le_refl _, Nat.le_refl _⟩
theorem Row.non : Row .non 0 0 := ⟨rfl, Nat.le_refl _, Nat.le_refl _⟩
theorem Row.tup {α : Type} {f : α → D} {n b : Nat} {l : List α} (h : ∀ a ∈ l, Row (f a) n b) : Row (.tup (l.map f)) (n + 1) ((b + 1) * l.length) :=
  ⟨smL_map fun a ha => (h a ha).sm, Nat.succ_le_succ (depthL_map fun a ha => (h a ha).dp), bulkL_map fun a ha => (h a ha).bk⟩
theorem Row.mono {d : D} {n b n' b' : Nat} (h : Row d n b) (h1 : n ≤ n') (h2 : b ≤ b') : Row d n' b' := ⟨h.sm, Nat.le_trans h.dp h1, Nat.le_trans h.bk h2⟩
theorem Row.lst {ds : List D} {n b : Nat} (h : ∀ d ∈ ds, Row d n b) : Row (.lst ds) (n + 1) ((b + 1) * ds.length) := by
  have e : ds.map id = ds := List.map_id ds
  refine ⟨?_, ?_, ?_⟩
  · show smL ds = true; rw [← e]; exact smL_map fun a ha => (h a ha).sm
  · show PyData.depthAll (pyL ds) + 1 ≤ _; have := depthL_map (f := id) (l := ds) fun a ha => (h a ha).dp; rw [e] at this; omega
  · show PyData.bulkAll (pyL ds) ≤ _; have := bulkL_map (f := id) (l := ds) fun a ha => (h a ha).bk; rw [e] at this; exact this
theorem Row.rep {d : D} {n b : Nat} (h : Row d n b) (c : compD d = true) (h1 : n ≤ 64) (h2 : b ≤ 1000000) : repD d = true := by
  unfold repD
  rw [c, h.sm, decide_eq_true (Nat.le_trans h.dp h1), decide_eq_true (Nat.le_trans h.bk h2)]; rfl
end DL

set_option Elab.async false
set_option linter.all false
set_option maxRecDepth 100000
set_option maxHeartbeats 4000000
namespace DL
open PySem PySem.Spec PyProof.Rows L2
/-! ### loops, by what holds -/
/-- m at env tells a and leaves env' -/
abbrev Runs {α : Type} (m : M α) (env : List DL.Slot) (a : α) (env' : List DL.Slot) : Prop := ∀ Q E, m env Q E = Q a env'
theorem for_inv {tg : D → M Unit} {body : M Fl} {Q : Fl → List DL.Slot → Prop} {E : Exn → List DL.Slot → Prop} {R : Prop} (I : Nat → List DL.Slot → Prop) :
    ∀ (ds pre : List D) (env : List DL.Slot), I pre.length env → (∀ i d env, (pre ++ ds)[i]? = some d → I i env → ∃ e1 e2, Runs (tg d) env () e1 ∧ Runs body e1 .nx e2 ∧ I (i + 1) e2) →
      (∀ env, I (pre ++ ds).length env → Q .nx env = R) → forL tg body ds env Q E = R
  | [], pre, env, h0, _, hq => hq env (by simpa using h0)
  | d :: ds, pre, env, h0, turn, hq => by
    obtain ⟨e1, e2, r1, r2, i2⟩ := turn pre.length d env (by simp) h0
    rw [forL_cons, r1, r2, loopK_nx]
    exact for_inv I ds (pre ++ [d]) e2 (by simpa using i2) (by simpa using turn) (by simpa using hq)
/-- .. from the start -/
theorem for_all {tg : D → M Unit} {body : M Fl} {ds : List D} {env : List DL.Slot} {Q : Fl → List DL.Slot → Prop} {E : Exn → List DL.Slot → Prop} {R : Prop} (I : Nat → List DL.Slot → Prop) (h0 : I 0 env)
    (turn : ∀ i d env, ds[i]? = some d → I i env → ∃ e1 e2, Runs (tg d) env () e1 ∧ Runs body e1 .nx e2 ∧ I (i + 1) e2) (hq : ∀ env, I ds.length env → Q .nx env = R) : forL tg body ds env Q E = R :=
  for_inv I ds [] env h0 turn hq
/-- comprehensions whose turns change something -/
theorem comp_inv {tg : D → M Unit} {vs : List Nat} {cond : M Bool} {elt : M D} {Q : List D → List DL.Slot → Prop} {E : Exn → List DL.Slot → Prop} {R : Prop} (I : Nat → List D → List DL.Slot → Prop) :
    ∀ (ds pre acc : List D) (env : List DL.Slot), I pre.length acc env → (∀ i d acc env, (pre ++ ds)[i]? = some d → I i acc env → ∃ e1 c e2, Runs (tg d) (wipeE env vs) () e1 ∧ Runs cond e1 c e2 ∧ (c = false → I (i + 1) acc e2) ∧ (c = true → ∃ y e3, Runs elt e2 y e3 ∧ acc.length < sizeLine ∧ I (i + 1) (acc ++ [y]) e3)) →
      (∀ acc env, I (pre ++ ds).length acc env → Q acc env = R) → compL tg vs cond elt ds acc env Q E = R
  | [], pre, acc, env, h0, _, hq => hq acc env (by simpa using h0)
  | d :: ds, pre, acc, env, h0, turn, hq => by
    obtain ⟨e1, c, e2, r1, r2, hf, ht⟩ := turn pre.length d acc env (by simp) h0
    rw [compL_c, r1, r2]
    cases c with
    | false =>
      rw [if_neg Bool.false_ne_true]
      exact comp_inv I ds (pre ++ [d]) acc e2 (by simpa using hf rfl) (by simpa using turn) (by simpa using hq)
    | true =>
      obtain ⟨y, e3, r3, lz, i3⟩ := ht rfl
      rw [if_pos rfl, r3]
      rw [show (acc.length < sizeLine) = True from eq_true lz, true_and]
      exact comp_inv I ds (pre ++ [d]) (acc ++ [y]) e3 (by simpa using i3) (by simpa using turn) (by simpa using hq)
theorem comp_all {items : M (List D)} {tg : D → M Unit} {vs : List Nat} {cond : M Bool} {elt : M D} {env : List DL.Slot} {Q : O → List DL.Slot → Prop} {E : Exn → List DL.Slot → Prop} {R : Prop} (ds : List D) (hi : Runs items env ds env) (I : Nat → List D → List DL.Slot → Prop) (h0 : I 0 [] env)
    (turn : ∀ i d acc env, ds[i]? = some d → I i acc env → ∃ e1 c e2, Runs (tg d) (wipeE env vs) () e1 ∧ Runs cond e1 c e2 ∧ (c = false → I (i + 1) acc e2) ∧ (c = true → ∃ y e3, Runs elt e2 y e3 ∧ acc.length < sizeLine ∧ I (i + 1) (acc ++ [y]) e3))
    (hq : ∀ acc env', I ds.length acc env' → Q (.lst acc) (backE env env' vs) = R) : compM items tg vs cond elt env Q E = R := by
  rw [compM_ap, hi]
  exact comp_inv I ds [] [] env h0 turn hq
/-- the same where nothing is changed: what each item gives -/
theorem comp_pure {items : M (List D)} {tg : D → M Unit} {vs : List Nat} {cond : M Bool} {elt : M D} {env : List DL.Slot} {α : Type} (l : List α) (c : α → D) (P : α → Bool) (f : α → D) (hi : Runs items env (l.map c) env) (hl : l.length ≤ 1000000) (hb : backE env env vs = env)
    (turn : ∀ a ∈ l, ∃ e1, wipeE e1 vs = wipeE env vs ∧ Runs (tg (c a)) (wipeE env vs) () e1 ∧ Runs cond e1 (P a) e1 ∧ (P a = true → Runs elt e1 (f a) e1)) : Runs (compM items tg vs cond elt) env (.lst ((l.filter P).map f)) env := by
  intro Q E
  rw [compM_ap, hi]
  have key : ∀ (l : List α) (acc : List D) (e : List DL.Slot), wipeE e vs = wipeE env vs → acc.length + l.length ≤ 1000000 → (∀ a ∈ l, ∃ e1, wipeE e1 vs = wipeE env vs ∧ Runs (tg (c a)) (wipeE env vs) () e1 ∧ Runs cond e1 (P a) e1 ∧ (P a = true → Runs elt e1 (f a) e1)) →
      compL tg vs cond elt (l.map c) acc e (fun acc env2 => Q (.lst acc) (backE env env2 vs)) (fun _ _ => False) = Q (.lst (acc ++ (l.filter P).map f)) env := by
    intro l
    induction l with
    | nil =>
      intro acc e he _ _
      show Q (.lst acc) (backE env e vs) = _
      rw [backE_wipe he, hb]; simp
    | cons a l ih =>
      intro acc e he hz ht
      obtain ⟨e1, w1, r1, r2, r3⟩ := ht a (by simp)
      rw [List.length_cons] at hz
      rw [List.map_cons, compL_c, he, r1, r2]
      cases p : P a with
      | false =>
        rw [if_neg Bool.false_ne_true, ih acc e1 w1 (by omega) fun b hb => ht b (List.mem_cons_of_mem _ hb), List.filter_cons, p, if_neg Bool.false_ne_true]
      | true =>
        have sz : acc.length < sizeLine := by rw [sizeLine_eq]; omega
        rw [if_pos rfl, r3 p, show (acc.length < sizeLine) = True from eq_true sz, true_and, ih (acc ++ [f a]) e1 w1 (by rw [List.length_append]; simp; omega) fun b hb => ht b (List.mem_cons_of_mem _ hb), List.filter_cons, p, if_pos rfl]
        simp
  rw [key l [] env rfl (by simpa using hl) turn, List.nil_append]
/-! ### .. whose end is told, for all callers alike (x: of the index type) -/
theorem for_runs {ι : Type} {tg : D → M Unit} {body : M Fl} (I : Nat → (ι → List DL.Slot) → Prop) : ∀ (ds pre : List D) (env : ι → List DL.Slot), I pre.length env →
    (∀ i d env, (pre ++ ds)[i]? = some d → I i env → ∃ e1 e2 : ι → List DL.Slot, (∀ x, Runs (tg d) (env x) () (e1 x)) ∧ (∀ x, Runs body (e1 x) .nx (e2 x)) ∧ I (i + 1) e2) →
    ∃ env' : ι → List DL.Slot, I (pre ++ ds).length env' ∧ ∀ x Q E, forL tg body ds (env x) Q E = Q .nx (env' x)
  | [], pre, env, h0, _ => ⟨env, by simpa using h0, fun x Q E => rfl⟩
  | d :: ds, pre, env, h0, turn => by
    obtain ⟨e1, e2, r1, r2, i2⟩ := turn pre.length d env (by simp) h0
    obtain ⟨env', i', run⟩ := for_runs I ds (pre ++ [d]) e2 (by simpa using i2) (by simpa using turn)
    refine ⟨env', by simpa using i', fun x Q E => ?_⟩
    rw [forL_cons, r1, r2, loopK_nx, run]
theorem for_run {ι : Type} {tg : D → M Unit} {body : M Fl} {ds : List D} {env : ι → List DL.Slot} (I : Nat → (ι → List DL.Slot) → Prop) (h0 : I 0 env)
    (turn : ∀ i d env, ds[i]? = some d → I i env → ∃ e1 e2 : ι → List DL.Slot, (∀ x, Runs (tg d) (env x) () (e1 x)) ∧ (∀ x, Runs body (e1 x) .nx (e2 x)) ∧ I (i + 1) e2) :
    ∃ env' : ι → List DL.Slot, I ds.length env' ∧ ∀ x Q E, forL tg body ds (env x) Q E = Q .nx (env' x) := for_runs I ds [] env h0 turn
theorem comp_runs {ι : Type} {tg : D → M Unit} {vs : List Nat} {cond : M Bool} {elt : M D} (I : Nat → List D → (ι → List DL.Slot) → Prop) : ∀ (ds pre acc : List D) (env : ι → List DL.Slot), I pre.length acc env →
    (∀ i d acc env, (pre ++ ds)[i]? = some d → I i acc env → ∃ (e1 : ι → List DL.Slot) (c : Bool) (e2 : ι → List DL.Slot), (∀ x, Runs (tg d) (wipeE (env x) vs) () (e1 x)) ∧ (∀ x, Runs cond (e1 x) c (e2 x)) ∧ (c = false → I (i + 1) acc e2) ∧ (c = true → ∃ (y : D) (e3 : ι → List DL.Slot), (∀ x, Runs elt (e2 x) y (e3 x)) ∧ acc.length < sizeLine ∧ I (i + 1) (acc ++ [y]) e3)) →
    ∃ (acc' : List D) (env' : ι → List DL.Slot), I (pre ++ ds).length acc' env' ∧ ∀ x Q E, compL tg vs cond elt ds acc (env x) Q E = Q acc' (env' x)
  | [], pre, acc, env, h0, _ => ⟨acc, env, by simpa using h0, fun x Q E => rfl⟩
  | d :: ds, pre, acc, env, h0, turn => by
    obtain ⟨e1, c, e2, r1, r2, hf, ht⟩ := turn pre.length d acc env (by simp) h0
    cases c with
    | false =>
      obtain ⟨acc', env', i', run⟩ := comp_runs I ds (pre ++ [d]) acc e2 (by simpa using hf rfl) (by simpa using turn)
      refine ⟨acc', env', by simpa using i', fun x Q E => ?_⟩
      rw [compL_c, r1, r2, if_neg Bool.false_ne_true, run]
    | true =>
      obtain ⟨y, e3, r3, lz, i3⟩ := ht rfl
      obtain ⟨acc', env', i', run⟩ := comp_runs I ds (pre ++ [d]) (acc ++ [y]) e3 (by simpa using i3) (by simpa using turn)
      refine ⟨acc', env', by simpa using i', fun x Q E => ?_⟩
      rw [compL_c, r1, r2, if_pos rfl, r3, show (acc.length < sizeLine) = True from eq_true lz, true_and, run]
theorem comp_run {ι : Type} {items : M (List D)} {tg : D → M Unit} {vs : List Nat} {cond : M Bool} {elt : M D} {env : ι → List DL.Slot} (ds : List D) (hi : ∀ x, Runs items (env x) ds (env x)) (I : Nat → List D → (ι → List DL.Slot) → Prop) (h0 : I 0 [] env)
    (turn : ∀ i d acc env, ds[i]? = some d → I i acc env → ∃ (e1 : ι → List DL.Slot) (c : Bool) (e2 : ι → List DL.Slot), (∀ x, Runs (tg d) (wipeE (env x) vs) () (e1 x)) ∧ (∀ x, Runs cond (e1 x) c (e2 x)) ∧ (c = false → I (i + 1) acc e2) ∧ (c = true → ∃ (y : D) (e3 : ι → List DL.Slot), (∀ x, Runs elt (e2 x) y (e3 x)) ∧ acc.length < sizeLine ∧ I (i + 1) (acc ++ [y]) e3)) :
    ∃ (acc' : List D) (env' : ι → List DL.Slot), I ds.length acc' env' ∧ ∀ x Q E, compM items tg vs cond elt (env x) Q E = Q (.lst acc') (backE (env x) (env' x) vs) := by
  obtain ⟨acc', env', i', run⟩ := comp_runs I ds [] [] env h0 turn
  exact ⟨acc', env', i', fun x Q E => by rw [compM_ap, hi, run]⟩
/-! ### while -/
theorem while_step {c : M Bool} {b : M Fl} {env e1 e2 : List DL.Slot} (hc : Runs c env true e1) (hb : Runs b e1 .nx e2) (Q E) : whileM c b env Q E = whileM c b e2 Q E := by
  refine propext ⟨fun ⟨n, h⟩ => ?_, fun ⟨n, h⟩ => ⟨n + 1, ?_⟩⟩
  · cases n with
    | zero => exact (show False from h).elim
    | succ n =>
      have h : c env _ E := h
      rw [hc, if_pos rfl, hb] at h
      exact ⟨n, h⟩
  · show c env _ E
    rw [hc, if_pos rfl, hb]
    exact h
theorem while_end {c : M Bool} {b : M Fl} {env e1 : List DL.Slot} (hc : Runs c env false e1) (Q E) : whileM c b env Q E = Q .nx e1 := by
  refine propext ⟨fun ⟨n, h⟩ => ?_, fun h => ⟨1, ?_⟩⟩
  · cases n with
    | zero => exact (show False from h).elim
    | succ n =>
      have h : c env _ E := h
      rw [hc, if_neg Bool.false_ne_true] at h
      exact h
  · show c env _ E
    rw [hc, if_neg Bool.false_ne_true]
    exact h
end DL

set_option Elab.async false
set_option linter.all false
set_option maxRecDepth 100000
set_option maxHeartbeats 4000000
namespace DL
open PySem PySem.Spec PyProof.Rows L2
/-! ### small data compared with themselves -/
mutual
theorem eqv_sm : ∀ d : D, smD d = true → PyData.eqv (py d) (py d) = true
  | .non, _ => rfl
  | .bl _, _ => by show (_ == _) = true; exact beq_self_eq_true _
  | .int _, _ => by show (_ == _) = true; exact beq_self_eq_true _
  | .str _, e => by cases e
  | .byt _, e => by cases e
  | .hall _ _, e => by cases e
  | .scr _, e => by cases e
  | .pr _, e => by cases e
  | .tup ds, h => eqvL_sm ds (by simpa [smD] using h)
  | .lst ds, h => eqvL_sm ds (by simpa [smD] using h)
theorem eqvL_sm : ∀ ds : List D, smL ds = true → PyData.eqvAll (pyL ds) (pyL ds) = true
  | [], _ => rfl
  | d :: ds, h => by
    have q : smD d = true ∧ smL ds = true := by simpa [smL] using h
    show (PyData.eqv (py d) (py d) && PyData.eqvAll (pyL ds) (pyL ds)) = true
    rw [eqv_sm d q.1, eqvL_sm ds q.2]; rfl
end
theorem Row.eqOk {d : D} {n b : Nat} (h : Row d n b) (hn : n ≤ 64) : DL.eqOk d = true := by
  unfold DL.eqOk
  rw [(sm_ok d h.sm).1, decide_eq_true (Nat.le_trans h.dp hn)]; rfl
theorem eqM_gen {a b : D} (h : ∀ s, a ≠ .str s) (ha : eqOk a = true) (hb : eqOk b = true) (env : List DL.Slot) (Q E) : eqM a b env Q E = Q (.bl (eqv a b)) env := by
  have e : eqM a b = ask (eqOk a = true ∧ eqOk b = true) (DL.ret (.bl (eqv a b))) := by
    unfold eqM
    split
    · exact absurd rfl (h _)
    · rfl
  rw [e, ask_ap, ha, hb]
  simp only [true_and]
  rfl
theorem neM_gen {a b : D} (h : ∀ s, a ≠ .str s) (ha : eqOk a = true) (hb : eqOk b = true) (env : List DL.Slot) (Q E) : neM a b env Q E = Q (.bl (!eqv a b)) env := by
  have e : neM a b = ask (eqOk a = true ∧ eqOk b = true) (DL.ret (.bl (!eqv a b))) := by
    unfold neM
    split
    · exact absurd rfl (h _)
    · rfl
  rw [e, ask_ap, ha, hb]
  simp only [true_and]
  rfl
theorem Row.nostr {d : D} {n b : Nat} (h : Row d n b) (s : Str) : d ≠ .str s := fun e => by
  have := h.sm
  rw [e] at this
  cases this
theorem eqM_self {d : D} {n b : Nat} (h : Row d n b) (hn : n ≤ 64) (env : List DL.Slot) (Q E) : eqM d d env Q E = Q (.bl true) env := by
  rw [eqM_gen h.nostr (h.eqOk hn) (h.eqOk hn), show eqv d d = true from eqv_sm d h.sm]
theorem neM_self {d : D} {n b : Nat} (h : Row d n b) (hn : n ≤ 64) (env : List DL.Slot) (Q E) : neM d d env Q E = Q (.bl false) env := by
  rw [neM_gen h.nostr (h.eqOk hn) (h.eqOk hn), show eqv d d = true from eqv_sm d h.sm]; rfl
/-! ### cuts -/
theorem cut_take {α : Type} (l : List α) {i : Int} (h : 0 ≤ i) : cutL l none (some i) = l.take i.toNat := by
  have e : HT.sIx l.length l.length (some i) = min i.toNat l.length := by show (if i < 0 then _ else _) = _; rw [if_neg (by omega)]
  unfold cutL
  rw [e, HT.sIx_none, List.drop_zero, Nat.sub_zero]
  by_cases hl : i.toNat ≤ l.length
  · rw [Nat.min_eq_left hl]
  · rw [Nat.min_eq_right (by omega), List.take_length, List.take_of_length_le (by omega)]
theorem cut_drop {α : Type} (l : List α) {i : Int} (h : 0 ≤ i) : cutL l (some i) none = l.drop i.toNat := by
  have e : HT.sIx l.length 0 (some i) = min i.toNat l.length := by show (if i < 0 then _ else _) = _; rw [if_neg (by omega)]
  unfold cutL
  rw [e, HT.sIx_none]
  by_cases hl : i.toNat ≤ l.length
  · rw [Nat.min_eq_left hl, List.take_of_length_le (by rw [List.length_drop]; exact Nat.le_refl _)]
  · rw [Nat.min_eq_right (by omega), List.drop_length, List.drop_of_length_le (by omega), List.take_nil]
theorem set_cut {α : Type} (l : List α) {i : Nat} (a : α) (h : i < l.length) : l.take i ++ [a] ++ l.drop (i + 1) = l.set i a := by
  rw [List.set_eq_take_append_cons_drop, if_pos h]; simp
end DL
namespace DL
open PySem PySem.Spec PyProof.Rows L2
theorem comp_items {items : M (List D)} {tg : D → M Unit} {vs : List Nat} {cond : M Bool} {elt : M D} {env env1 : List DL.Slot} {ds : List D} (h : Runs items env ds env1) (Q E) : compM items tg vs cond elt env Q E = compM (DL.ret ds) tg vs cond elt env1 Q E := by
  rw [compM_ap, compM_ap, h]; rfl
theorem bools_of {α : Type} (P : α → Bool) : ∀ l : List α, boolsOf (l.map fun x => D.bl (P x)) = some (l.map P)
  | [] => rfl
  | a :: l => by rw [List.map_cons]; show (boolsOf (l.map fun x => D.bl (P x))).map (P a :: ·) = _; rw [bools_of P l]; rfl
theorem allM_map {α : Type} (P : α → Bool) (l : List α) (env : List DL.Slot) (Q E) : allM (.lst (l.map fun x => .bl (P x))) env Q E = Q (.bl (l.all P)) env := by
  unfold allM
  simp only [bools_of]
  show Q (.bl ((l.map P).all id)) env = _
  rw [List.all_map]; rfl
theorem anyM_map {α : Type} (P : α → Bool) (l : List α) (env : List DL.Slot) (Q E) : anyM (.lst (l.map fun x => .bl (P x))) env Q E = Q (.bl (l.any P)) env := by
  unfold anyM
  simp only [bools_of]
  show Q (.bl ((l.map P).any id)) env = _
  rw [List.any_map]; rfl
end DL

set_option Elab.async false
set_option linter.all false
set_option maxRecDepth 100000
set_option maxHeartbeats 2000000
/-! Standings, walks, leads: plain. -/
namespace MW
/-- lists without repeats within others are no longer -/
theorem nodup_len {α : Type} [DecidableEq α] : ∀ {l l' : List α}, l.Nodup → (∀ a ∈ l, a ∈ l') → l.length ≤ l'.length
  | [], _, _, _ => Nat.zero_le _
  | a :: l, l', h, hs => by
    rw [List.nodup_cons] at h
    have ha : a ∈ l' := hs a (by simp)
    have := nodup_len (l := l) (l' := l'.erase a) h.2 fun b hb => (List.mem_erase_of_ne (fun e : b = a => h.1 (by rw [← e]; exact hb))).mpr (hs b (List.mem_cons_of_mem _ hb))
    rw [List.length_erase_of_mem ha] at this
    have : 0 < l'.length := List.length_pos_of_mem ha
    rw [List.length_cons]; omega
theorem nodup_perm {α : Type} [DecidableEq α] : ∀ {l l' : List α}, l.Nodup → (∀ a ∈ l, a ∈ l') → l'.length ≤ l.length → l.Perm l'
  | [], l', _, _, hl => by have : l' = [] := List.eq_nil_of_length_eq_zero (by simpa using hl); rw [this]
  | a :: l, l', h, hs, hl => by
    rw [List.nodup_cons] at h
    have ha : a ∈ l' := hs a (by simp)
    have le := List.length_erase_of_mem ha
    rw [List.length_cons] at hl
    have := nodup_perm (l := l) (l' := l'.erase a) h.2 (fun b hb => (List.mem_erase_of_ne (fun e : b = a => h.1 (by rw [← e]; exact hb))).mpr (hs b (List.mem_cons_of_mem _ hb))) (by omega)
    exact (this.cons a).trans (List.perm_cons_erase ha).symm
def nums (n : Int) : List Int := (List.range n.toNat).map fun i => ((i : Nat) : Int)
theorem nums_len (n : Int) : (nums n).length = n.toNat := by unfold nums; rw [List.length_map, List.length_range]
theorem nums_mem {n i : Int} : i ∈ nums n ↔ 0 ≤ i ∧ i < n := by
  unfold nums
  rw [List.mem_map]
  constructor
  · rintro ⟨k, hk, rfl⟩; rw [List.mem_range] at hk; omega
  · intro h; exact ⟨i.toNat, by rw [List.mem_range]; omega, by omega⟩
theorem nums_nodup (n : Int) : (nums n).Nodup := by
  unfold nums
  rw [List.nodup_iff_pairwise_ne, List.pairwise_map]
  exact List.Pairwise.imp (fun {a b} h e => h (by omega)) (List.nodup_iff_pairwise_ne.mp List.nodup_range)
theorem nums_srt (n : Int) : (nums n).Pairwise (· < ·) := by
  unfold nums
  rw [List.pairwise_map]
  exact List.Pairwise.imp (fun {a b} h => by omega) (List.pairwise_lt_range)
theorem nums_get {n : Int} {i : Nat} (h : i < n.toNat) : (nums n)[i]? = some (i : Int) := by
  unfold nums
  rw [List.getElem?_map, List.getElem?_range h]; rfl
theorem nums_succ (n : Int) (h : 0 ≤ n) : nums (n + 1) = nums n ++ [n] := by
  unfold nums
  rw [show (n + 1).toNat = n.toNat + 1 by omega, List.range_succ, List.map_append]
  simp; omega
abbrev Sd := List (Option Int)
/-- the seats of those who are in are seats, each once -/
structure Stand (g s : Int) (st : Sd) : Prop where
  len : (st.length : Int) = g
  hg : 1 ≤ g ∧ g ≤ 24
  hs : 0 ≤ s ∧ s ≤ 6
  bd : ∀ i, some i ∈ st → 0 ≤ i ∧ i < g + s
  nd : st.Pairwise fun o p => o = none ∨ o ≠ p
def standB (g s : Int) (st : Sd) : Bool := decide ((st.length : Int) = g) && decide (1 ≤ g ∧ g ≤ 24) && decide (0 ≤ s ∧ s ≤ 6) && st.all (fun o => match o with | none => true | some i => decide (0 ≤ i ∧ i < g + s)) && decide (st.Pairwise fun o p => o = none ∨ o ≠ p)
theorem stand_by {g s : Int} {st : Sd} (h : standB g s st = true) : Stand g s st := by
  unfold standB at h
  simp only [Bool.and_eq_true, decide_eq_true_eq, List.all_eq_true] at h
  obtain ⟨⟨⟨⟨h1, h2⟩, h3⟩, h4⟩, h5⟩ := h
  refine ⟨h1, h2, h3, fun i hi => ?_, h5⟩
  have := h4 (some i) hi
  simpa using this
def seatAt (st : Sd) (i : Int) : Option Int := if 0 ≤ i then (st[i.toNat]?).join else none
def hold (st : Sd) (x : Int) : Option Int := if (st.any fun o => o == some x) = true then some ((st.findIdx fun o => o == some x : Nat) : Int) else none
section
variable {g s : Int} {st : Sd}
theorem seat_get {i v : Int} : seatAt st i = some v ↔ 0 ≤ i ∧ st[i.toNat]? = some (some v) := by
  unfold seatAt
  by_cases h : 0 ≤ i
  · rw [if_pos h]
    cases e : st[i.toNat]? with
    | none => simp
    | some o => cases o <;> simp [h]
  · rw [if_neg h]; simp [h]
theorem seat_nat {k : Nat} {o : Option Int} (h : st[k]? = some o) : seatAt st (k : Int) = o := by
  unfold seatAt
  rw [if_pos (by omega), Int.toNat_natCast, h]; rfl
theorem seat_lt {i v : Int} (h : seatAt st i = some v) : 0 ≤ i ∧ i < st.length := by
  obtain ⟨h1, h2⟩ := seat_get.mp h
  have := (List.getElem?_eq_some_iff.mp h2).1
  omega
theorem Stand.bound (S : Stand g s st) {i v : Int} (h : seatAt st i = some v) : (0 ≤ i ∧ i < g) ∧ 0 ≤ v ∧ v < g + s := by
  have a := seat_lt h
  have b := S.bd v (List.mem_of_getElem? (seat_get.mp h).2)
  have := S.len
  omega
theorem Stand.uniq (S : Stand g s st) {i j v : Int} (h1 : seatAt st i = some v) (h2 : seatAt st j = some v) : i = j := by
  obtain ⟨a1, b1⟩ := seat_get.mp h1
  obtain ⟨a2, b2⟩ := seat_get.mp h2
  obtain ⟨li, ei⟩ := List.getElem?_eq_some_iff.mp b1
  obtain ⟨lj, ej⟩ := List.getElem?_eq_some_iff.mp b2
  have pw := List.pairwise_iff_getElem.mp S.nd
  rcases Nat.lt_trichotomy i.toNat j.toNat with z | z | z
  · have := pw _ _ li lj z
    rw [ei, ej] at this
    rcases this with y | y
    · cases y
    · exact (y rfl).elim
  · omega
  · have := pw _ _ lj li z
    rw [ei, ej] at this
    rcases this with y | y
    · cases y
    · exact (y rfl).elim
theorem hold_some {x h : Int} (e : hold st x = some h) : seatAt st h = some x := by
  unfold hold at e
  split at e
  · rename_i a
    have lt : st.findIdx (fun o => o == some x) < st.length := List.findIdx_lt_length_of_exists (by simpa using a)
    have := List.findIdx_getElem (w := lt)
    have e2 : st[st.findIdx (fun o => o == some x)] = some x := by simpa using this
    cases e
    exact seat_nat (by rw [List.getElem?_eq_getElem lt, e2])
  · cases e
theorem hold_none {x : Int} : hold st x = none ↔ ∀ h, seatAt st h ≠ some x := by
  constructor
  · intro e h eh
    unfold hold at e
    split at e
    · cases e
    · rename_i a
      refine a (List.any_eq_true.mpr ⟨some x, List.mem_of_getElem? (seat_get.mp eh).2, by simp⟩)
  · intro h
    cases e : hold st x with
    | none => rfl
    | some k => exact absurd (hold_some e) (h k)
theorem Stand.hold_of (S : Stand g s st) {x h : Int} (e : seatAt st h = some x) : hold st x = some h := by
  cases z : hold st x with
  | none => exact absurd e (hold_none.mp z h)
  | some k => rw [S.uniq e (hold_some z)]
/-! ### walks -/
def it (st : Sd) : Nat → Int → Option Int
  | 0, x => some x
  | n + 1, x => (hold st x).bind (it st n)
theorem it_succ (n : Nat) : ∀ x : Int, it st (n + 1) x = (it st n x).bind (hold st) := by
  induction n with
  | zero => intro x; show (hold st x).bind (fun y => some y) = hold st x; cases hold st x <;> rfl
  | succ n ih =>
    intro x
    show (hold st x).bind (it st (n + 1)) = ((hold st x).bind (it st n)).bind _
    cases e : hold st x with
    | none => rfl
    | some h => exact ih h
theorem it_le {n m : Nat} {x v : Int} (h : it st m x = some v) (l : n ≤ m) : ∃ u, it st n x = some u := by
  induction m generalizing v with
  | zero => have : n = 0 := by omega
            subst this; exact ⟨v, h⟩
  | succ m ih =>
    by_cases e : n = m + 1
    · subst e; exact ⟨v, h⟩
    · rw [it_succ] at h
      cases z : it st m x with
      | none => rw [z] at h; cases h
      | some u => exact ih z (by omega)
def Ends (st : Sd) : Nat → Int → Prop
  | 0, x => hold st x = none
  | n + 1, x => match hold st x with
    | none => True
    | some h => Ends st n h
def endF (st : Sd) : Nat → Int → Int
  | 0, x => x
  | n + 1, x => match hold st x with
    | none => x
    | some h => endF st n h
def pathF (st : Sd) : Nat → Int → List Int
  | 0, x => [x]
  | n + 1, x => match hold st x with
    | none => [x]
    | some h => x :: pathF st n h
theorem ends_iff : ∀ (n : Nat) (x : Int), Ends st n x ↔ it st (n + 1) x = none
  | 0, x => by show hold st x = none ↔ (hold st x).bind _ = none; cases hold st x <;> simp [it]
  | n + 1, x => by
    show (match hold st x with | none => True | some h => Ends st n h) ↔ (hold st x).bind (it st (n + 1)) = none
    cases e : hold st x with
    | none => simp
    | some h => exact ends_iff n h
/-- loose: out, or nobody's -/
def Loose (st : Sd) (x : Int) : Prop := seatAt st x = none
instance (st : Sd) (x : Int) : Decidable (Loose st x) := by unfold Loose; infer_instance
theorem Stand.it_inj (S : Stand g s st) {x : Int} (hx : Loose st x) : ∀ {i j : Nat} {v : Int}, it st i x = some v → it st j x = some v → i ≤ j → i = j
  | 0, 0, _, _, _, _ => rfl
  | 0, j + 1, v, h1, h2, _ => by
    cases h1
    rw [it_succ] at h2
    cases z : it st j x with
    | none => rw [z] at h2; cases h2
    | some u =>
      rw [z] at h2
      have := hold_some (show hold st u = some x from h2)
      rw [show seatAt st x = none from hx] at this
      cases this
  | i + 1, 0, _, _, _, h => by omega
  | i + 1, j + 1, v, h1, h2, l => by
    rw [it_succ] at h1 h2
    cases z1 : it st i x with
    | none => rw [z1] at h1; cases h1
    | some u1 =>
      cases z2 : it st j x with
      | none => rw [z2] at h2; cases h2
      | some u2 =>
        rw [z1] at h1; rw [z2] at h2
        have a := hold_some (show hold st u1 = some v from h1)
        have b := hold_some (show hold st u2 = some v from h2)
        rw [a] at b
        cases b
        rw [S.it_inj hx z1 z2 (by omega)]
theorem Stand.ends (S : Stand g s st) {x : Int} (hx : Loose st x) : Ends st st.length x := by
  rw [ends_iff]
  cases e : it st (st.length + 1) x with
  | none => rfl
  | some v =>
    exfalso
    have all : ∀ k, k ≤ st.length + 1 → ∃ u, it st k x = some u := fun k hk => it_le e hk
    let f : Nat → Int := fun k => (it st (k + 1) x).getD 0
    have hf : ∀ k, k < st.length + 1 → it st (k + 1) x = some (f k) := fun k hk => by
      obtain ⟨u, hu⟩ := all (k + 1) (by omega)
      show _ = some ((it st (k + 1) x).getD 0)
      rw [hu]; rfl
    have nd : ((List.range (st.length + 1)).map f).Nodup := by
      rw [List.nodup_iff_pairwise_ne, List.pairwise_map]
      refine List.Pairwise.imp_of_mem ?_ (List.pairwise_lt_range)
      intro a b ha hb h e
      rw [List.mem_range] at ha hb
      have h1 := hf a ha
      have h2 := hf b hb
      rw [e] at h1
      have := S.it_inj hx h1 h2 (by omega)
      omega
    have sub : ∀ a ∈ (List.range (st.length + 1)).map f, a ∈ nums g := by
      intro a ha
      obtain ⟨k, hk, rfl⟩ := List.mem_map.mp ha
      rw [List.mem_range] at hk
      have h1 := hf k hk
      rw [it_succ] at h1
      cases z : it st k x with
      | none => rw [z] at h1; cases h1
      | some u =>
        rw [z] at h1
        have := S.bound (hold_some (show hold st u = some (f k) from h1))
        exact nums_mem.mpr this.1
    have := nodup_len nd sub
    rw [List.length_map, List.length_range, nums_len] at this
    have := S.len
    omega
/-- where the walk from x ends -/
def path (st : Sd) (x : Int) : List Int := pathF st st.length x
def endP (st : Sd) (x : Int) : Int := endF st st.length x
theorem endF_it : ∀ {n : Nat} {x : Int}, Ends st n x → ∃ k, k ≤ n ∧ it st k x = some (endF st n x) ∧ hold st (endF st n x) = none
  | 0, x, h => ⟨0, Nat.le_refl _, rfl, h⟩
  | n + 1, x, h => by
    unfold Ends at h
    unfold endF
    cases e : hold st x with
    | none => exact ⟨0, by omega, rfl, e⟩
    | some y =>
      rw [e] at h
      obtain ⟨k, l, h1, h2⟩ := endF_it (x := y) h
      refine ⟨k + 1, by omega, ?_, h2⟩
      show (hold st x).bind _ = _
      rw [e]
      exact h1
theorem endF_eq : ∀ {n k : Nat} {x e : Int}, it st k x = some e → hold st e = none → Ends st n x → endF st n x = e
  | 0, 0, x, e, h1, h2, h3 => by cases h1; rfl
  | 0, k + 1, x, e, h1, h2, h3 => by
    have h1 : (hold st x).bind (it st k) = some e := h1
    rw [show hold st x = none from h3] at h1
    cases h1
  | n + 1, 0, x, e, h1, h2, h3 => by
    cases h1
    unfold endF
    rw [h2]
  | n + 1, k + 1, x, e, h1, h2, h3 => by
    have h1 : (hold st x).bind (it st k) = some e := h1
    unfold Ends at h3
    unfold endF
    cases z : hold st x with
    | none => rw [z] at h1; cases h1
    | some y => rw [z] at h1 h3; exact endF_eq h1 h2 h3
theorem pathF_none {n : Nat} {x : Int} (h : hold st x = none) : pathF st n x = [x] := by
  cases n with
  | zero => rfl
  | succ n => unfold pathF; rw [h]
theorem pathF_some {n : Nat} {x y : Int} (h : hold st x = some y) : pathF st (n + 1) x = x :: pathF st n y := by
  show (match hold st x with | none => [x] | some h => x :: pathF st n h) = _
  rw [h]
theorem ends_some {n : Nat} {x y : Int} (e : Ends st (n + 1) x) (h : hold st x = some y) : Ends st n y := by
  unfold Ends at e
  rw [h] at e
  exact e
theorem pathF_ne : ∀ (n : Nat) (x : Int), pathF st n x ≠ []
  | 0, x => by simp [pathF]
  | n + 1, x => by unfold pathF; cases hold st x <;> simp
theorem pathF_last : ∀ (n : Nat) (x : Int), (pathF st n x).getLast? = some (endF st n x)
  | 0, x => rfl
  | n + 1, x => by
    unfold pathF endF
    cases e : hold st x with
    | none => rfl
    | some y =>
      show (x :: pathF st n y).getLast? = _
      cases p : pathF st n y with
      | nil => exact absurd p (pathF_ne n y)
      | cons a l =>
        rw [List.getLast?_cons_cons, ← p, pathF_last n y]
theorem pathF_len : ∀ (n : Nat) (x : Int), (pathF st n x).length ≤ n + 1
  | 0, x => by simp [pathF]
  | n + 1, x => by
    unfold pathF
    cases e : hold st x with
    | none => show 1 ≤ _; omega
    | some y => have := pathF_len n y; show (pathF st n y).length + 1 ≤ _; omega
theorem Stand.endP_spec (S : Stand g s st) {x : Int} (hx : Loose st x) : ∃ k, it st k x = some (endP st x) ∧ hold st (endP st x) = none := by
  obtain ⟨k, _, h1, h2⟩ := endF_it (S.ends hx)
  exact ⟨k, h1, h2⟩
theorem Stand.endP_eq (S : Stand g s st) {x e : Int} {k : Nat} (hx : Loose st x) (h1 : it st k x = some e) (h2 : hold st e = none) : endP st x = e := endF_eq h1 h2 (S.ends hx)
theorem Stand.it_bd (S : Stand g s st) {x : Int} (hx : 0 ≤ x ∧ x < g + s) : ∀ {k : Nat} {v : Int}, it st k x = some v → 0 ≤ v ∧ v < g + s
  | 0, v, h => by cases h; exact hx
  | k + 1, v, h => by
    rw [it_succ] at h
    cases z : it st k x with
    | none => rw [z] at h; cases h
    | some u =>
      rw [z] at h
      have := S.bound (hold_some (show hold st u = some v from h))
      have := S.hs
      omega
theorem Stand.endP_bd (S : Stand g s st) {x : Int} (hx : Loose st x) (hb : 0 ≤ x ∧ x < g + s) : 0 ≤ endP st x ∧ endP st x < g + s := by
  obtain ⟨k, h1, _⟩ := S.endP_spec hx
  exact S.it_bd hb h1
/-- back along a walk -/
def back (st : Sd) : Nat → Int → Int
  | 0, v => v
  | n + 1, v => match seatAt st v with
    | none => v
    | some w => back st n w
theorem back_it {x : Int} : ∀ {k : Nat} {v : Int}, it st k x = some v → back st k v = x
  | 0, v, h => by cases h; rfl
  | k + 1, v, h => by
    rw [it_succ] at h
    cases z : it st k x with
    | none => rw [z] at h; cases h
    | some u =>
      rw [z] at h
      unfold back
      rw [hold_some (show hold st u = some v from h)]
      exact back_it z
theorem back_more {x : Int} (hx : Loose st x) : ∀ {k m : Nat} {v : Int}, back st k v = x → k ≤ m → back st m v = x
  | 0, 0, v, h, _ => h
  | 0, m + 1, v, h, _ => by
    have h : v = x := h
    subst h
    unfold back
    rw [show seatAt st v = none from hx]
  | k + 1, 0, _, _, l => by omega
  | k + 1, m + 1, v, h, l => by
    unfold back at h ⊢
    cases e : seatAt st v with
    | none => rw [e] at h; exact h
    | some w => rw [e] at h; exact back_more hx h (by omega)
theorem Stand.end_inj (S : Stand g s st) {x y : Int} (hx : Loose st x) (hy : Loose st y) (e : endP st x = endP st y) : x = y := by
  obtain ⟨k, h1, _⟩ := S.endP_spec hx
  obtain ⟨m, h2, _⟩ := S.endP_spec hy
  have a := back_more hx (back_it h1) (Nat.le_max_left k m)
  have b := back_more hy (back_it h2) (Nat.le_max_right k m)
  rw [e] at a
  exact a.symm.trans b
/-! ### leads -/
def lead (st : Sd) (x : Int) : Int := (seatAt st x).getD (endP st x)
theorem lead_in {x v : Int} (h : seatAt st x = some v) : lead st x = v := by unfold lead; rw [h]; rfl
theorem lead_loose {x : Int} (h : Loose st x) : lead st x = endP st x := by unfold lead; rw [show seatAt st x = none from h]; rfl
theorem Stand.lead_inj (S : Stand g s st) {x y : Int} (e : lead st x = lead st y) : x = y := by
  cases hx : seatAt st x with
  | some v =>
    rw [lead_in hx] at e
    cases hy : seatAt st y with
    | some w => rw [lead_in hy] at e; subst e; exact S.uniq hx hy
    | none =>
      rw [lead_loose hy] at e
      obtain ⟨k, _, h2⟩ := S.endP_spec hy
      rw [← e, S.hold_of hx] at h2
      cases h2
  | none =>
    rw [lead_loose hx] at e
    cases hy : seatAt st y with
    | some w =>
      rw [lead_in hy] at e
      obtain ⟨k, _, h2⟩ := S.endP_spec hx
      rw [e, S.hold_of hy] at h2
      cases h2
    | none => rw [lead_loose hy] at e; exact S.end_inj hx hy e
theorem Stand.lead_bd (S : Stand g s st) {x : Int} (hb : 0 ≤ x ∧ x < g + s) : 0 ≤ lead st x ∧ lead st x < g + s := by
  cases hx : seatAt st x with
  | some v => rw [lead_in hx]; exact (S.bound hx).2
  | none => rw [lead_loose hx]; exact S.endP_bd hx hb
/-! ### who comes -/
def put (st : Sd) (i : Int) (o : Option Int) : Sd := st.set i.toNat o
theorem put_len {i : Int} {o : Option Int} : (put st i o).length = st.length := List.length_set ..
theorem seat_put {i j : Int} {o : Option Int} (hi : 0 ≤ i ∧ i < st.length) : seatAt (put st i o) j = if j = i then o else seatAt st j := by
  unfold seatAt put
  by_cases hj : 0 ≤ j
  · rw [if_pos hj]
    by_cases e : j = i
    · subst e
      rw [if_pos rfl, List.getElem?_set_self (by omega)]; rfl
    · rw [if_neg e, if_pos hj, List.getElem?_set_ne (by omega)]
  · rw [if_neg hj, if_neg hj, if_neg (by omega)]
theorem stand_of {g s : Int} {st : Sd} (len : (st.length : Int) = g) (hg : 1 ≤ g ∧ g ≤ 24) (hs : 0 ≤ s ∧ s ≤ 6) (bd : ∀ i v, seatAt st i = some v → 0 ≤ v ∧ v < g + s) (un : ∀ i j v, seatAt st i = some v → seatAt st j = some v → i = j) : Stand g s st := by
  refine ⟨len, hg, hs, fun v hv => ?_, ?_⟩
  · obtain ⟨k, hk⟩ := List.mem_iff_getElem?.mp hv
    exact bd k v (seat_nat hk)
  · rw [List.pairwise_iff_getElem]
    intro i j hi hj l
    cases e : st[i] with
    | none => exact .inl rfl
    | some v =>
      refine .inr fun z => ?_
      have := un i j v (seat_nat (by rw [List.getElem?_eq_getElem hi, e])) (seat_nat (by rw [List.getElem?_eq_getElem hj, ← z]))
      omega
theorem Stand.put (S : Stand g s st) {i : Int} {o : Option Int} (hi : 0 ≤ i ∧ i < g) (hb : ∀ e, o = some e → 0 ≤ e ∧ e < g + s) (hn : ∀ e j, o = some e → seatAt st j = some e → j = i) : Stand g s (put st i o) := by
  have hi' : 0 ≤ i ∧ i < st.length := by have := S.len; omega
  refine stand_of (by rw [put_len]; exact S.len) S.hg S.hs (fun j v h => ?_) fun j k v h1 h2 => ?_
  · rw [seat_put hi'] at h
    split at h
    · exact hb v h
    · exact (S.bound h).2
  · rw [seat_put hi'] at h1 h2
    split at h1
    · rename_i e1
      split at h2
      · rename_i e2; rw [e1, e2]
      · rename_i e2; exact absurd (hn v k h1 h2) e2
    · rename_i e1
      split at h2
      · exact absurd (hn v j h2 h1) e1
      · exact S.uniq h1 h2
/-- the standing behind a coming -/
def come (st : Sd) (i : Int) : Sd := put st i (some (endP st i))
theorem Stand.come (S : Stand g s st) {i : Int} (hi : 0 ≤ i ∧ i < g) (hl : Loose st i) : Stand g s (come st i) := by
  obtain ⟨k, h1, h2⟩ := S.endP_spec hl
  refine S.put hi (fun e he => ?_) fun e j he hj => ?_
  · cases he; exact S.endP_bd hl (by have := S.hs; omega)
  · cases he; exact absurd hj (hold_none.mp h2 j)
theorem Stand.hold_come (S : Stand g s st) {i x : Int} (hi : 0 ≤ i ∧ i < g) (hl : Loose st i) : hold (MW.come st i) x = if x = endP st i then some i else hold st x := by
  have hi' : 0 ≤ i ∧ i < st.length := by have := S.len; omega
  have S' := S.come hi hl
  have sp : ∀ j, seatAt (MW.come st i) j = if j = i then some (endP st i) else seatAt st j := fun j => seat_put hi'
  split
  · rename_i e
    exact S'.hold_of (by rw [sp, if_pos rfl, e])
  · rename_i e
    cases z : hold st x with
    | none =>
      refine hold_none.mpr fun j hj => ?_
      rw [sp] at hj
      split at hj
      · cases hj; exact e rfl
      · exact hold_none.mp z j hj
    | some j =>
      have hj := hold_some z
      refine S'.hold_of ?_
      rw [sp, if_neg fun w => ?_, hj]
      subst w
      rw [show seatAt st j = none from hl] at hj
      cases hj
/-- a coming changes no lead -/
theorem Stand.lead_come (S : Stand g s st) {i x : Int} (hi : 0 ≤ i ∧ i < g) (hl : Loose st i) : lead (MW.come st i) x = lead st x := by
  have hi' : 0 ≤ i ∧ i < st.length := by have := S.len; omega
  have S' := S.come hi hl
  have sp : ∀ j, seatAt (MW.come st i) j = if j = i then some (endP st i) else seatAt st j := fun j => seat_put hi'
  by_cases e : x = i
  · subst e
    rw [lead_in (by rw [sp, if_pos rfl]), lead_loose hl]
  · cases hx : seatAt st x with
    | some v => rw [lead_in (by rw [sp, if_neg e, hx]), lead_in hx]
    | none =>
      have hx' : Loose (MW.come st i) x := by show seatAt _ _ = none; rw [sp, if_neg e, hx]
      rw [lead_loose hx', lead_loose hx]
      obtain ⟨k, h1, h2⟩ := S.endP_spec hx
      have ne : endP st x ≠ endP st i := fun z => e (S.end_inj hx hl z)
      have h3 : hold (MW.come st i) (endP st x) = none := by rw [S.hold_come hi hl, if_neg ne, h2]
      refine S'.endP_eq (k := k) hx' ?_ h3
      -- the same walk
      have go : ∀ m, m ≤ k → it (MW.come st i) m x = it st m x := fun m => by
        induction m with
        | zero => intro _; rfl
        | succ m ih =>
          intro hm
          rw [it_succ, it_succ, ih (by omega)]
          obtain ⟨u, hu⟩ := it_le h1 (show m ≤ k by omega)
          rw [hu]
          show hold (MW.come st i) u = hold st u
          rw [S.hold_come hi hl, if_neg]
          intro z
          obtain ⟨w, hw⟩ := it_le h1 hm
          rw [it_succ, hu] at hw
          obtain ⟨_, _, h5⟩ := S.endP_spec hl
          rw [z] at hw
          have hw : hold st (endP st i) = some w := hw
          rw [h5] at hw
          cases hw
      rw [go k (Nat.le_refl _)]
      exact h1
/-- from lo on, below hi -/
def seg (lo hi : Int) : List Int := (List.range (hi - lo).toNat).map fun i => lo + (i : Nat)
theorem seg_mem {lo hi i : Int} : i ∈ seg lo hi ↔ lo ≤ i ∧ i < hi := by
  unfold seg
  rw [List.mem_map]
  constructor
  · rintro ⟨k, hk, rfl⟩; rw [List.mem_range] at hk; omega
  · intro h; exact ⟨(i - lo).toNat, by rw [List.mem_range]; omega, by omega⟩
theorem seg_len (lo hi : Int) : (seg lo hi).length = (hi - lo).toNat := by unfold seg; rw [List.length_map, List.length_range]
theorem nums_seg {a b : Int} (h : 0 ≤ a) (h2 : a ≤ b) : nums b = nums a ++ seg a b := by
  unfold nums seg
  rw [show b.toNat = a.toNat + (b - a).toNat by omega, List.range_add, List.map_append, List.map_map]
  congr 1
  refine List.map_congr_left fun i _ => ?_
  show (((a.toNat + i : Nat)) : Int) = a + i
  omega
theorem Stand.spare (S : Stand g s st) {i : Int} (h : g ≤ i) : Loose st i := by
  cases e : seatAt st i with
  | none => exact e
  | some v => have := (S.bound e).1; omega
def leadsL (g s : Int) (st : Sd) : List Int := (nums (g + s)).map (lead st)
theorem leads_len (g s : Int) (st : Sd) : (leadsL g s st).length = (g + s).toNat := by unfold leadsL; rw [List.length_map, nums_len]
theorem Stand.leads_nodup (S : Stand g s st) : (leadsL g s st).Nodup := by
  unfold leadsL
  rw [List.nodup_iff_pairwise_ne, List.pairwise_map]
  exact List.Pairwise.imp (fun {a b} h e => h (S.lead_inj e)) (List.nodup_iff_pairwise_ne.mp (nums_nodup _))
theorem Stand.leads_perm (S : Stand g s st) : (leadsL g s st).Perm (nums (g + s)) := nodup_perm S.leads_nodup (fun a ha => by
  obtain ⟨i, hi, rfl⟩ := List.mem_map.mp ha
  exact nums_mem.mpr (S.lead_bd (nums_mem.mp hi))) (by rw [leads_len, nums_len]; exact Nat.le_refl _)
theorem Stand.leads_come (S : Stand g s st) {i : Int} (hi : 0 ≤ i ∧ i < g) (hl : Loose st i) : leadsL g s (MW.come st i) = leadsL g s st := by
  unfold leadsL
  exact List.map_congr_left fun x _ => S.lead_come hi hl
end
end MW

set_option Elab.async false
set_option linter.all false
set_option maxRecDepth 100000
set_option maxHeartbeats 4000000
namespace DLP
open PySem PySem.Spec PyProof.Rows L2 DL
def top (i : Nat) : Stmt := PySem.Challenge.pw_waitseats_k01_halls_told.main.body.getD i (.Pass ⟨0, 0, 0, 0⟩)
abbrev s_Lcell : Stmt := (top 10)
abbrev s_Hall_eq : Stmt := (inClass (top 8) 2)
abbrev s_is_whole : Stmt := (top 7)
abbrev s_Hall_init : Stmt := (inClass (top 8) 0)
abbrev s_Hall_len : Stmt := (inClass (top 8) 3)
abbrev s_Hall_repr : Stmt := (inClass (top 8) 5)
abbrev s_Hall_str : Stmt := (inClass (top 8) 4)
abbrev s_Hall_seats : Stmt := (inClass (top 8) 1)
abbrev s_Lone_right : Stmt := (top 14)
abbrev s_Lpool : Stmt := (top 11)
abbrev s_Ltake : Stmt := (top 12)
abbrev s_Lsizes : Stmt := (top 13)
abbrev s_Ltwo_right : Stmt := (top 15)
abbrev s_law : Stmt := (top 16)
def b_Lcell_1 (C : Addr) : M Fl := thenN (bnd (do2 (do2 (do2 (dVar 2) (ret (.int 38011)) mulD) (dVar 3) addD) (ret (.int 2147483423)) modD) (setI 2))
def m_Lcell (C : Addr) : M Fl := seqM (ifM (do2 (dVar 1) (bnd (consM (dVar 0) (ret [])) (un1 lenD)) fun x y => bnd (ltD x y) asB) (bnd (do2 (dVar 0) (dVar 1) ixM) fun d => ret (.rt (.d d))) (ret .nx)) (seqM (thenN (bnd (do2 (do2 (ret (.int 70003)) (do2 (do2 (do2 (dVar 1) (dVar 1) mulD) (do2 (ret (.int 7)) (dVar 1) mulD) addD) (ret (.int 5)) addD) mulD) (ret (.int 2147483423)) modD) (setI 2))) (seqM (forM (bnd (bnd (dVar 0) fun d => bnd (ret none) fun l => bnd (partM (ret (.int 3))) fun h => slM d l h) itLst) (setI 3) (b_Lcell_1 C)) (bnd (dVar 2) fun d => ret (.rt (.d d)))))
def f_Lcell (C : Addr) : DF := defM 4 (m_Lcell C)
def m_Hall_eq (C : Addr) : M Fl := bnd (andV (bnd (dVar 1) (isiD .hall)) (do2 (tupM (consM (bnd (dVar 0) hgM) (consM (bnd (dVar 0) hsM) (ret [])))) (tupM (consM (bnd (dVar 1) hgM) (consM (bnd (dVar 1) hsM) (ret [])))) eqM)) fun d => ret (.rt (.d d))
def f_Hall_eq (C : Addr) : DF := defM 2 (m_Hall_eq C)
def m_is_whole (C : Addr) : M Fl := bnd (andV (bnd (dVar 0) (isiD .int)) (andV (notV (bnd (dVar 0) (isiD .bool))) (chM leD leD (dVar 1) (dVar 0) (dVar 2)))) fun d => ret (.rt (.d d))
def f_is_whole (C : Addr) : DF := defM 3 (m_is_whole C)
def m_Hall_init (C : Addr) : M Fl := seqM (ifM (notB (bnd (bnd (bnd (consD (dVar 1) (consD (ret (.int 1)) (consD (ret (.int 24)) (ret [])))) (callN 3 (f_is_whole C))) resD) truD)) fail (ret .nx)) (seqM (ifM (notB (bnd (bnd (bnd (consD (dVar 2) (consD (ret (.int 0)) (consD (ret (.int 6)) (ret [])))) (callN 3 (f_is_whole C))) resD) truD)) fail (ret .nx)) (seqM (fsetM C 0 "guests" (dVar 1)) (fsetM C 0 "spare" (dVar 2))))
def f_Hall_init (C : Addr) : DF := defM 3 (m_Hall_init C)
def m_Hall_len (C : Addr) : M Fl := bnd (bnd (bnd (dVar 0) hgM) lenRg) fun d => ret (.rt (.d d))
def f_Hall_len (C : Addr) : DF := defM 1 (m_Hall_len C)
def m_Hall_repr (C : Addr) : M Fl := bnd (joinM [(ret (.str "Hall(")), (bnd (bnd (dVar 0) hgM) fmtD), (ret (.str ", spare=")), (bnd (bnd (dVar 0) hsM) fmtD), (ret (.str ")"))] Str.empty) fun d => ret (.rt (.d d))
def f_Hall_repr (C : Addr) : DF := defM 1 (m_Hall_repr C)
def m_Hall_str (C : Addr) : M Fl := bnd (joinM [(bnd (bnd (dVar 0) hgM) fmtD), (ret (.str "+")), (bnd (bnd (dVar 0) hsM) fmtD)] Str.empty) fun d => ret (.rt (.d d))
def f_Hall_str (C : Addr) : DF := defM 1 (m_Hall_str C)
def m_Hall_seats (C : Addr) : M Fl := bnd (do2 (bnd (dVar 0) hgM) (bnd (dVar 0) hsM) addD) fun d => ret (.rt (.d d))
def f_Hall_seats (C : Addr) : DF := defM 1 (m_Hall_seats C)
def m_Lone_right (C : Addr) : M Fl := seqM (thenN (bnd (bnd (bnd (consM (dVar 0) (ret [])) fun ds => bnd (consM (dVar 1) (ret [])) fun es => mkM C 1 1 (pick [0, 1]) (f_Hall_init C) ds es) (hallM C)) (setI 2))) (seqM (ifM (do2 (bnd (consM (lstM (consM (bnd (dVar 2) hgM) (consM (bnd (dVar 2) hsM) (consM (bnd (bnd (dVar 2) (hcallM (f_Hall_seats C))) resD) (consM (bnd (bnd (dVar 2) (hcallM (f_Hall_len C))) lenR) (ret [])))))) (ret [])) (un1 reprE)) (bnd (consM (lstM (consM (dVar 0) (consM (dVar 1) (consM (do2 (dVar 0) (dVar 1) addD) (consM (dVar 0) (ret [])))))) (ret [])) (un1 reprE)) fun x y => bnd (neM x y) asB) (bnd (ret (.bl false)) fun d => ret (.rt (.d d))) (ret .nx)) (seqM (ifM (orB (do2 (bnd (bnd (dVar 2) (hcallM (f_Hall_str C))) strR) (do2 (do2 (bnd (consM (dVar 0) (ret [])) (un1 txtD)) (ret (.str "+")) addD) (bnd (consM (dVar 1) (ret [])) (un1 txtD)) addD) fun x y => bnd (neM x y) asB) (do2 (bnd (dVar 2) (reprX (f_Hall_repr C))) (do2 (do2 (do2 (do2 (ret (.str "Hall(")) (bnd (consM (dVar 0) (ret [])) (un1 txtD)) addD) (ret (.str ", spare=")) addD) (bnd (consM (dVar 1) (ret [])) (un1 txtD)) addD) (ret (.str ")")) addD) fun x y => bnd (neM x y) asB)) (bnd (ret (.bl false)) fun d => ret (.rt (.d d))) (ret .nx)) (seqM (thenN (bnd (bnd (bnd (consM (dVar 1) (consM (dVar 0) (ret []))) fun es => mkM C 0 2 (pick [1, 0]) (f_Hall_init C) [] es) (hallM C)) (setI 3))) (seqM (ifM (orB (notB (do2 (dVar 2) (dVar 3) fun x y => bnd (heqM (f_Hall_eq C) false x y) asB)) (orB (do2 (dVar 2) (dVar 3) fun x y => bnd (heqM (f_Hall_eq C) true x y) asB) (notB (bnd (bnd (bnd (dVar 2) (hcallM (f_Hall_len C))) lenR) truD)))) (bnd (ret (.bl false)) fun d => ret (.rt (.d d))) (ret .nx)) (bnd (orV (do2 (dVar 1) (ret (.int 0)) gtD) (andV (do2 (bnd (bnd (consM (dVar 0) (ret [])) fun ds => mkM C 1 0 (fun ds es => pick [0, 1] ds (es ++ [.int 0])) (f_Hall_init C) ds []) (hallM C)) (dVar 2) (heqM (f_Hall_eq C) false)) (do2 (bnd (bnd (bnd (consM (dVar 0) (ret [])) fun es => mkM C 0 1 (fun ds es => pick [0, 1] ds (es ++ [.int 0])) (f_Hall_init C) [] es) (hallM C)) hsM) (ret (.int 0)) eqM))) fun d => ret (.rt (.d d)))))))
def f_Lone_right (C : Addr) : DF := defM 4 (m_Lone_right C)
def m_Lpool (C : Addr) : M Fl := seqM (thenN (bnd (ret (.int 0)) (setI 1))) (seqM (ifM (orB (do2 (dVar 0) (ret (.int 0)) fun x y => bnd (ltD x y) asB) (do2 (dVar 0) (do2 (ret (.int 10)) (ret (.int 18)) powD) fun x y => bnd (geD x y) asB)) (thenN (bnd (bnd (consM (dVar 0) (ret [])) (un1 absD)) (setI 1))) (ret .nx)) (bnd (olstM (consM (do2 (dVar 0) (ret (.int 2147483423)) modD) (consM (dVar 1) (consM (ret (.int 0)) (ret []))))) fun d => ret (.rt (.o d))))
def f_Lpool (C : Addr) : DF := defM 2 (m_Lpool C)
def m_Ltake (C : Addr) : M Fl := seqM (asgM (do2 (oixM 0 (ret (.int 2))) (ret (.int 1)) addD) (osetM 0 (ret (.int 2)))) (seqM (thenN (bnd (oixM 0 (ret (.int 0))) (setI 2))) (seqM (asgM (do2 (bnd (consM (do2 (do2 (dVar 2) (do2 (do2 (bnd (consM (dVar 2) (ret [])) (un1 intD)) (ret (.int 45013)) modD) (ret (.int 32017)) addD) mulD) (do2 (ret (.int 90023)) (oixM 0 (ret (.int 2))) mulD) addD) (ret [])) (un1 intD)) (ret (.int 2147483423)) modD) (osetM 0 (ret (.int 0)))) (seqM (ifM (do2 (oixM 0 (ret (.int 1))) (ret (.int 0)) fun x y => bnd (gtD x y) asB) (seqM (asgM (bnd (consM (oixM 0 (ret (.int 1))) (consM (dVar 1) (ret []))) (un2 divD)) (setTw [osetM 0 (ret (.int 1)), setI 3])) (bnd (dVar 3) fun d => ret (.rt (.d d)))) (ret .nx)) (bnd (do2 (do2 (oixM 0 (ret (.int 0))) (ret (.int 64)) fdivD) (dVar 1) modD) fun d => ret (.rt (.d d))))))
def f_Ltake (C : Addr) : DF := defM 4 (m_Ltake C)
def m_Lsizes (C : Addr) : M Fl := seqM (parM [2, 3] (vD (do2 (ret (.int 1)) (bnd (bnd (consO 0 (consD (dVar 1) (ret []))) (callN 2 (f_Ltake C))) resD) addD) (vD (bnd (bnd (consO 0 (consD (ret (.int 3)) (ret []))) (callN 2 (f_Ltake C))) resD) (ret [])))) (seqM (ifM (do2 (bnd (bnd (consO 0 (consD (ret (.int 8)) (ret []))) (callN 2 (f_Ltake C))) resD) (ret (.int 5)) fun x y => bnd (eqM x y) asB) (thenN (bnd (do2 (ret (.int 1)) (bnd (bnd (consO 0 (consD (ret (.int 24)) (ret []))) (callN 2 (f_Ltake C))) resD) addD) (setI 2))) (ret .nx)) (seqM (ifM (do2 (bnd (bnd (consO 0 (consD (ret (.int 8)) (ret []))) (callN 2 (f_Ltake C))) resD) (ret (.int 5)) fun x y => bnd (eqM x y) asB) (thenN (bnd (bnd (bnd (consO 0 (consD (ret (.int 7)) (ret []))) (callN 2 (f_Ltake C))) resD) (setI 3))) (ret .nx)) (bnd (tupM (consM (dVar 2) (consM (dVar 3) (ret [])))) fun d => ret (.rt (.d d)))))
def f_Lsizes (C : Addr) : DF := defM 4 (m_Lsizes C)
def c_Ltwo_right_1 (C : Addr) : M O := compM (bnd (frzV 6) itLst) (setI 8) (([("_law_part", 8)] : List (Str × Nat)).map (·.2)) (ret true) (do2 (dVar 3) (dVar 8) (heqM (f_Hall_eq C) false))
def c_Ltwo_right_2 (C : Addr) : M O := compM (bnd (frzV 6) itLst) (setI 8) (([("_law_part", 8)] : List (Str × Nat)).map (·.2)) (ret true) (do2 (dVar 3) (dVar 8) (heqM (f_Hall_eq C) true))
def c_Ltwo_right_3 (C : Addr) : M O := compM (bnd (dVar 7) itLst) (setI 9) (([("_law_thing", 9)] : List (Str × Nat)).map (·.2)) (ret true) (do2 (dVar 9) (dVar 3) (heqM (f_Hall_eq C) false))
def c_Ltwo_right_4 (C : Addr) : M O := compM (bnd (dVar 7) itLst) (setI 9) (([("_law_thing", 9)] : List (Str × Nat)).map (·.2)) (ret true) (do2 (dVar 9) (dVar 3) (heqM (f_Hall_eq C) true))
def c_Ltwo_right_5 (C : Addr) : M O := compM (bnd (dVar 7) itLst) (setI 9) (([("_law_thing", 9)] : List (Str × Nat)).map (·.2)) (ret true) (do2 (dVar 3) (dVar 9) (heqM (f_Hall_eq C) false))
def c_Ltwo_right_6 (C : Addr) : M O := compM (bnd (dVar 7) itLst) (setI 9) (([("_law_thing", 9)] : List (Str × Nat)).map (·.2)) (ret true) (do2 (dVar 3) (dVar 9) (heqM (f_Hall_eq C) true))
def m_Ltwo_right (C : Addr) : M Fl := seqM (parM [1, 2] (vD (bnd (bnd (consO 0 (consD (ret (.int 6)) (ret []))) (callN 2 (f_Lsizes C))) resD) (vD (bnd (bnd (consO 0 (consD (ret (.int 6)) (ret []))) (callN 2 (f_Lsizes C))) resD) (ret [])))) (seqM (asgM (tupM (consM (bnd (bnd (consM (do2 (dVar 1) (ret (.int 0)) ixM) (ret [])) fun ds => bnd (consM (do2 (dVar 1) (ret (.int 1)) ixM) (ret [])) fun es => mkM C 1 1 (pick [0, 1]) (f_Hall_init C) ds es) (hallM C)) (consM (bnd (bnd (consM (do2 (dVar 2) (ret (.int 0)) ixM) (ret [])) fun ds => bnd (consM (do2 (dVar 2) (ret (.int 1)) ixM) (ret [])) fun es => mkM C 1 1 (pick [0, 1]) (f_Hall_init C) ds es) (hallM C)) (ret [])))) (setTw [setI 3, setI 4])) (seqM (thenN (bnd (do2 (dVar 1) (dVar 2) eqM) (setI 5))) (seqM (ifM (do2 (bnd (consM (lstM (consM (do2 (dVar 3) (dVar 4) (heqM (f_Hall_eq C) false)) (consM (do2 (dVar 4) (dVar 3) (heqM (f_Hall_eq C) false)) (consM (do2 (dVar 3) (lstM (consM (dVar 4) (ret []))) (hinM (f_Hall_eq C))) (consM (notV (do2 (dVar 3) (dVar 4) (heqM (f_Hall_eq C) true))) (ret [])))))) (ret [])) (un1 reprE)) (bnd (consM (do2 (lstM (consM (dVar 5) (ret []))) (ret (.int 4)) mulD) (ret [])) (un1 reprE)) fun x y => bnd (neM x y) asB) (bnd (ret (.bl false)) fun d => ret (.rt (.d d))) (ret .nx)) (seqM (thenN (bnd (olstM (consM (bnd (bnd (consM (do2 (ret (.int 1)) (do2 (bnd (consM (do2 (dVar 1) (ret (.int 0)) ixM) (ret [])) (un1 intD)) (ret (.int 24)) modD) addD) (ret [])) fun ds => bnd (consM (do2 (dVar 1) (ret (.int 1)) ixM) (ret [])) fun es => mkM C 1 1 (pick [0, 1]) (f_Hall_init C) ds es) (hallM C)) (consM (bnd (bnd (consM (do2 (dVar 1) (ret (.int 0)) ixM) (ret [])) fun ds => bnd (consM (do2 (bnd (consM (do2 (do2 (dVar 1) (ret (.int 1)) ixM) (ret (.int 1)) addD) (ret [])) (un1 intD)) (ret (.int 7)) modD) (ret [])) fun es => mkM C 1 1 (pick [0, 1]) (f_Hall_init C) ds es) (hallM C)) (ret [])))) (setO 6))) (seqM (ifM (andB (do2 (do2 (dVar 1) (ret (.int 0)) ixM) (ret (.int 24)) fun x y => bnd (ltD x y) asB) (do2 (do2 (dVar 1) (ret (.int 1)) ixM) (ret (.int 0)) fun x y => bnd (gtD x y) asB)) (thenN (oappM 6 (bnd (bnd (consM (do2 (do2 (dVar 1) (ret (.int 0)) ixM) (ret (.int 1)) addD) (ret [])) fun ds => bnd (consM (do2 (do2 (dVar 1) (ret (.int 1)) ixM) (ret (.int 1)) subD) (ret [])) fun es => mkM C 1 1 (pick [0, 1]) (f_Hall_init C) ds es) (hallM C)))) (ret .nx)) (seqM (ifM (andB (do2 (do2 (dVar 1) (ret (.int 0)) ixM) (ret (.int 1)) fun x y => bnd (gtD x y) asB) (do2 (do2 (dVar 1) (ret (.int 1)) ixM) (ret (.int 6)) fun x y => bnd (ltD x y) asB)) (thenN (oappM 6 (bnd (bnd (consM (do2 (do2 (dVar 1) (ret (.int 0)) ixM) (ret (.int 1)) subD) (ret [])) fun ds => bnd (consM (do2 (do2 (dVar 1) (ret (.int 1)) ixM) (ret (.int 1)) addD) (ret [])) fun es => mkM C 1 1 (pick [0, 1]) (f_Hall_init C) ds es) (hallM C)))) (ret .nx)) (seqM (ifM (orB (bnd (bnd (consM (frzM (c_Ltwo_right_1 C)) (ret [])) (un1 anyM)) truD) (notB (bnd (bnd (consM (frzM (c_Ltwo_right_2 C)) (ret [])) (un1 allM)) truD))) (bnd (ret (.bl false)) fun d => ret (.rt (.d d))) (ret .nx)) (seqM (thenN (bnd (lstM (consM (ret .non) (consM (ret (.bl true)) (consM (do2 (dVar 1) (ret (.int 0)) ixM) (consM (dVar 1) (consM (bnd (bnd (dVar 3) (hcallM (f_Hall_str C))) strR) (consM (bnd (dVar 3) (reprX (f_Hall_repr C))) (consM (lstM (consM (dVar 3) (ret []))) (consM (tupM (consM (dVar 3) (ret []))) (consM (ret .emp) (consM (bnd (consM (dVar 1) (ret [])) (un1 listD)) (consM (tupM (ret [])) (consM (tupM (consM (lstM (ret [])) (ret []))) (consM (do2 (ret (.int 10)) (ret (.int 30)) powD) (ret []))))))))))))))) (setI 7))) (seqM (ifM (orB (bnd (bnd (consM (frzM (c_Ltwo_right_3 C)) (ret [])) (un1 anyM)) truD) (notB (bnd (bnd (consM (frzM (c_Ltwo_right_4 C)) (ret [])) (un1 allM)) truD))) (bnd (ret (.bl false)) fun d => ret (.rt (.d d))) (ret .nx)) (bnd (andV (notV (bnd (consM (frzM (c_Ltwo_right_5 C)) (ret [])) (un1 anyM))) (bnd (consM (frzM (c_Ltwo_right_6 C)) (ret [])) (un1 allM))) fun d => ret (.rt (.d d))))))))))))
def f_Ltwo_right (C : Addr) : DF := defM 10 (m_Ltwo_right C)
def c_law_1 (C : Addr) : M O := compM (bnd (consM (ret (.int 7)) (ret [])) itR1) (setI 4) (([("_law_more", 4)] : List (Str × Nat)).map (·.2)) (ret true) (bnd (bnd (consD (dVar 1) (consD (dVar 4) (ret []))) (callN 2 (f_Lone_right C))) resD)
def b_law_2 (C : Addr) : M Fl := ifM (notB (bnd (bnd (consM (frzM (c_law_1 C)) (ret [])) (un1 allM)) truD)) (bnd (ret (.bl false)) fun d => ret (.rt (.d d))) (ret .nx)
def c_law_3 (C : Addr) : M O := compM (bnd (consM (ret (.int 4)) (ret [])) itR1) (setI 5) (([("_law_turn", 5)] : List (Str × Nat)).map (·.2)) (ret true) (bnd (bnd (consO 3 (ret [])) (callN 1 (f_Ltwo_right C))) resD)
def b_law_4 (C : Addr) : M Fl := seqM (thenN (bnd (bnd (bnd (consD (bnd (bnd (consD (dVar 0) (consD (dVar 2) (ret []))) (callN 2 (f_Lcell C))) resD) (ret [])) (callN 1 (f_Lpool C))) resO) (setO 3))) (ifM (notB (bnd (bnd (consM (frzM (c_law_3 C)) (ret [])) (un1 allM)) truD)) (bnd (ret (.bl false)) fun d => ret (.rt (.d d))) (ret .nx))
def m_law (C : Addr) : M Fl := seqM (ifM (do2 (bnd (consM (lstM (consM (ret (.int 24)) (consM (ret (.int 6)) (consM (ret (.int 1000000000000000000000000000000)) (ret []))))) (ret [])) (un1 reprE)) (bnd (consM (lstM (consM (ret (.int 24)) (consM (ret (.int 6)) (consM (do2 (ret (.int 10)) (ret (.int 30)) powD) (ret []))))) (ret [])) (un1 reprE)) fun x y => bnd (neM x y) asB) (bnd (ret (.bl false)) fun d => ret (.rt (.d d))) (ret .nx)) (seqM (forM (bnd (consM (ret (.int 1)) (consM (ret (.int 25)) (ret []))) itR2) (setI 1) (b_law_2 C)) (seqM (forM (bnd (consM (bnd (consM (ret (.int 2)) (consM (bnd (consM (bnd (consM (dVar 0) (ret [])) (un1 lenD)) (consM (ret (.int 6)) (ret []))) (un2 min2D)) (ret []))) (un2 max2D)) (ret [])) itR1) (setI 2) (b_law_4 C)) (bnd (ret (.bl true)) fun d => ret (.rt (.d d)))))
def f_law (C : Addr) : DF := defM 6 (m_law C)
theorem sc_Lcell : FnScope ["_law_script", "_law_k", "_law_state", "_law_cell_here"] ["_law_script", "_law_k"] (defScope s_Lcell) := ⟨rfl, rfl, rfl, by decide +kernel, rfl, by decide +kernel, by decide +kernel⟩
theorem sc_Hall_eq : FnScope ["self", "other"] ["self", "other"] (defScope s_Hall_eq) := ⟨rfl, rfl, rfl, by decide +kernel, rfl, by decide +kernel, by decide +kernel⟩
theorem sc_is_whole : FnScope ["thing", "least", "most"] ["thing", "least", "most"] (defScope s_is_whole) := ⟨rfl, rfl, rfl, by decide +kernel, rfl, by decide +kernel, by decide +kernel⟩
theorem sc_Hall_init : FnScope ["self", "guests", "spare"] ["self", "guests", "spare"] (defScope s_Hall_init) := ⟨rfl, rfl, rfl, by decide +kernel, rfl, by decide +kernel, by decide +kernel⟩
theorem sc_Hall_len : FnScope ["self"] ["self"] (defScope s_Hall_len) := ⟨rfl, rfl, rfl, by decide +kernel, rfl, by decide +kernel, by decide +kernel⟩
theorem sc_Hall_repr : FnScope ["self"] ["self"] (defScope s_Hall_repr) := ⟨rfl, rfl, rfl, by decide +kernel, rfl, by decide +kernel, by decide +kernel⟩
theorem sc_Hall_str : FnScope ["self"] ["self"] (defScope s_Hall_str) := ⟨rfl, rfl, rfl, by decide +kernel, rfl, by decide +kernel, by decide +kernel⟩
theorem sc_Hall_seats : FnScope ["self"] ["self"] (defScope s_Hall_seats) := ⟨rfl, rfl, rfl, by decide +kernel, rfl, by decide +kernel, by decide +kernel⟩
theorem sc_Lone_right : FnScope ["_law_heads", "_law_more", "_law_inn", "_law_twin"] ["_law_heads", "_law_more"] (defScope s_Lone_right) := ⟨rfl, rfl, rfl, by decide +kernel, rfl, by decide +kernel, by decide +kernel⟩
theorem sc_Lpool : FnScope ["_law_cell_here", "_law_digits"] ["_law_cell_here"] (defScope s_Lpool) := ⟨rfl, rfl, rfl, by decide +kernel, rfl, by decide +kernel, by decide +kernel⟩
theorem sc_Ltake : FnScope ["_law_pool_here", "_law_wide", "_law_state", "_law_digit"] ["_law_pool_here", "_law_wide"] (defScope s_Ltake) := ⟨rfl, rfl, rfl, by decide +kernel, rfl, by decide +kernel, by decide +kernel⟩
theorem sc_Lsizes : FnScope ["_law_pool_here", "_law_upto", "_law_heads", "_law_more"] ["_law_pool_here", "_law_upto"] (defScope s_Lsizes) := ⟨rfl, rfl, rfl, by decide +kernel, rfl, by decide +kernel, by decide +kernel⟩
theorem sc_Ltwo_right : FnScope ["_law_pool_here", "_law_one", "_law_other", "_law_inn", "_law_mate", "_law_alike", "_law_near", "_law_things", "_law_part", "_law_thing"] ["_law_pool_here"] (defScope s_Ltwo_right) := ⟨rfl, rfl, rfl, by decide +kernel, rfl, by decide +kernel, by decide +kernel⟩
theorem sc_law : FnScope ["_law_script", "_law_heads", "_law_k", "_law_pool_here", "_law_more", "_law_turn"] ["_law_script"] (defScope s_law) := ⟨rfl, rfl, rfl, by decide +kernel, rfl, by decide +kernel, by decide +kernel⟩
structure Tx (K : PySem.W.Frag) (mg : Str → Option Value) (C : Addr) (a : Nat → Addr) (d : Nat → FuncData) : Prop where
  hall : HallK K C
  eqf : HE.EqF K C (a 1)
  hbl : PySem.W.findIn K (.ref C) "__bool__" = some none
  u_Lcell : Df K mg "_law_cell" "_law_cell" s_Lcell ["_law_script", "_law_k"] (a 0) (d 0)
  u_Hall_eq : Dm K C "__eq__" "Hall.__eq__" s_Hall_eq ["self", "other"] (a 1) (d 1)
  u_is_whole : Df K mg "is_whole" "is_whole" s_is_whole ["thing", "least", "most"] (a 2) (d 2)
  u_Hall_init : Fun K "__init__" "Hall.__init__" s_Hall_init (a 3) (d 3)
  mkC : Mk K C (a 3)
  u_initD : FunD K "__init__" "Hall.__init__" (defArgs s_Hall_init) (defBody s_Hall_init) (defScope s_Hall_init) [] [("spare", .int 0)] (a 3) (d 3)
  u_Hall_len : Dm K C "__len__" "Hall.__len__" s_Hall_len ["self"] (a 4) (d 4)
  u_Hall_repr : Dm K C "__repr__" "Hall.__repr__" s_Hall_repr ["self"] (a 5) (d 5)
  u_Hall_str : Dm K C "__str__" "Hall.__str__" s_Hall_str ["self"] (a 6) (d 6)
  u_Hall_seats : Dm K C "seats" "Hall.seats" s_Hall_seats ["self"] (a 7) (d 7)
  u_Lone_right : Df K mg "_law_one_right" "_law_one_right" s_Lone_right ["_law_heads", "_law_more"] (a 8) (d 8)
  u_Lpool : Df K mg "_law_pool" "_law_pool" s_Lpool ["_law_cell_here"] (a 9) (d 9)
  u_Ltake : Df K mg "_law_take" "_law_take" s_Ltake ["_law_pool_here", "_law_wide"] (a 10) (d 10)
  u_Lsizes : Df K mg "_law_sizes" "_law_sizes" s_Lsizes ["_law_pool_here", "_law_upto"] (a 11) (d 11)
  u_Ltwo_right : Df K mg "_law_two_right" "_law_two_right" s_Ltwo_right ["_law_pool_here"] (a 12) (d 12)
  u_law : Df K mg "law" "law" s_law ["_law_script"] (a 13) (d 13)
  g_Hall : mg "Hall" = some (.ref C)
  b_abs : mg "abs" = none
  b_all : mg "all" = none
  b_any : mg "any" = none
  b_bool : mg "bool" = none
  b_divmod : mg "divmod" = none
  b_int : mg "int" = none
  b_isinstance : mg "isinstance" = none
  b_len : mg "len" = none
  b_list : mg "list" = none
  b_max : mg "max" = none
  b_min : mg "min" = none
  b_range : mg "range" = none
  b_repr : mg "repr" = none
  b_str : mg "str" = none
  c_FAR : ∃ u, mg "FAR" = some u ∧ RelV (.int 1000000000000000000000000000000) u
  c_MOST : ∃ u, mg "MOST" = some u ∧ RelV (.int 24) u
  c_SPARE : ∃ u, mg "SPARE" = some u ∧ RelV (.int 6) u
section
variable [Tbs]
variable {P : Program} {w : World} {K : PySem.W.Frag} {mg : Str → Option Value} {base : Heap} {C : Addr} {a : Nat → Addr} {d : Nat → FuncData}
theorem km_1_spare (T : Tx K mg C a d) : KwM K (d 3) ["self", "guests", "spare"] 1 ["spare"] (pick [0, 1]) (pick [0, 1, 2]) (pick [0, 1, 2]) (pick [0, 1]) := kwM_of [0, 1] T.u_Hall_init (by decide) rfl fun _ _ _ _ _ _ us ws h1 h2 => match us, ws, h1, h2 with | [_, _], [_], _, _ => rfl
theorem km_0_spare_guests (T : Tx K mg C a d) : KwM K (d 3) ["self", "guests", "spare"] 0 ["spare", "guests"] (pick [1, 0]) (pick [0, 2, 1]) (pick [0, 2, 1]) (pick [1, 0]) := kwM_of [1, 0] T.u_Hall_init (by decide) rfl fun _ _ _ _ _ _ us ws h1 h2 => match us, ws, h1, h2 with | [_], [_, _], _, _ => rfl
theorem km_1__d (T : Tx K mg C a d) : ∃ g, KwM K (d 3) ["self", "guests", "spare"] 1 [] (fun ds es => pick [0, 1] ds (es ++ [.int 0])) g (fun vs zs => pick [0, 1, 2] vs (zs ++ [.int 0])) (fun vs zs => pick [0, 1] vs (zs ++ [.int 0])) := kwMd_of [0, 1] T.u_initD (by decide) rfl fun _ _ _ _ _ _ us mv ws h1 h2 h3 => match us, mv, ws, h1, h2, h3 with | [_, _], [_], [], _, _, _ => ⟨_, _, _, _, _, _, rfl, rfl, rfl⟩
theorem km_0_guests_d (T : Tx K mg C a d) : ∃ g, KwM K (d 3) ["self", "guests", "spare"] 0 ["guests"] (fun ds es => pick [0, 1] ds (es ++ [.int 0])) g (fun vs zs => pick [0, 1, 2] vs (zs ++ [.int 0])) (fun vs zs => pick [0, 1] vs (zs ++ [.int 0])) := kwMd_of [0, 1] T.u_initD (by decide) rfl fun _ _ _ _ _ _ us mv ws h1 h2 h3 => match us, mv, ws, h1, h2, h3 with | [_], [_], [_], _, _, _ => ⟨_, _, _, _, _, _, rfl, rfl, rfl⟩
theorem ok_Lcell (T : Tx K mg C a d) : FnG P w K mg base 1 (a 0) (d 0) ["_law_script", "_law_k"] (spD ⟨C, mg, K, w, P⟩ 2 (f_Lcell C)) :=
  fnD T.u_Lcell.fn sc_Lcell rfl (by decide) fun cdv A outer s H E hr hG => s_cons (s_if (t_cmp op_lt fits_lt (e_var (pv 1)) (b_call call_len fits_len rfl T.b_len boot_len (a_cons (e_var (pv 0)) a_nil)) rfl) (s_one (s_ret (e_ix (e_var (pv 0)) (e_var (pv 1))))) s_nil) (s_cons (s_set sc_Lcell.nd rfl (Or.inl rfl) (e_mod (e_mul e_int (e_add (e_add (e_mul (e_var (pv 1)) (e_var (pv 1))) (e_mul e_int (e_var (pv 1)))) e_int)) e_int)) (s_cons (s_for (passes_of rfl) rfl (i_lst (e_sl (e_var (pv 0)) p_none (p_some e_int))) (g_name sc_Lcell.nd rfl (Or.inl rfl)) (s_one (s_set sc_Lcell.nd rfl (Or.inl rfl) (e_mod (e_add (e_mul (e_var (pv 2)) e_int) (e_var (pv 3))) e_int))) (fun _ _ _ _ h => setI_nox h)) (s_one (s_ret (e_var (pv 2))))))
theorem ok_Hall_eq (T : Tx K mg C a d) : FnG P w K mg base 1 (a 1) (d 1) ["self", "other"] (spD ⟨C, mg, K, w, P⟩ 2 (f_Hall_eq C)) :=
  fnD T.u_Hall_eq.fn sc_Hall_eq rfl (by decide) fun cdv A outer s H E hr hG => s_one (s_ret (e_and (e_isi (ct := .hall) T.hall rfl T.b_isinstance (e_var (pv 1)) (pe_glob rfl T.g_Hall rfl)) (e_one (e_cmp (op_eqs hr.units) fits_eq (e_tup (a_cons (e_hg T.hall (e_var (pv 0))) (a_cons (e_hs T.hall (e_var (pv 0))) a_nil))) (e_tup (a_cons (e_hg T.hall (e_var (pv 1))) (a_cons (e_hs T.hall (e_var (pv 1))) a_nil))) rfl))))
theorem ok_is_whole (T : Tx K mg C a d) : FnG P w K mg base 1 (a 2) (d 2) ["thing", "least", "most"] (spD ⟨C, mg, K, w, P⟩ 3 (f_is_whole C)) :=
  fnD T.u_is_whole.fn sc_is_whole rfl (by decide) fun cdv A outer s H E hr hG => s_one (s_ret (e_and (e_isi (ct := .int) T.hall rfl T.b_isinstance (e_var (pv 0)) (pe_bltn rfl T.b_int boot_int rfl)) (e_and (e_not (e_isi (ct := .bool) T.hall rfl T.b_isinstance (e_var (pv 0)) (pe_bltn rfl T.b_bool boot_bool rfl))) (e_one (e_chain op_le op_le fits_le fits_le (e_var (pv 1)) (e_var (pv 0)) (e_var (pv 2)))))))
theorem ok_Hall_init (T : Tx K mg C a d) : FnG P w K mg base 2 (a 3) (d 3) ["self", "guests", "spare"] (spD ⟨C, mg, K, w, P⟩ 3 (f_Hall_init C)) :=
  fnD T.u_Hall_init sc_Hall_init rfl (by decide) fun cdv A outer s H E hr hG => s_cons (s_if (t_not (t_tru (e_res (c_pos (ok_is_whole T) (hr.mono (by decide)) hG (L2N.takes_of rfl rfl rfl rfl) rfl T.u_is_whole.mg T.u_is_whole.kp T.u_is_whole.bi rfl (ar_d (e_var (pv 1)) (ar_d e_int (ar_d (e_gc rfl T.c_MOST (fun _ _ => rfl)) ar_nil))))))) (s_one s_never) s_nil) (s_cons (s_if (t_not (t_tru (e_res (c_pos (ok_is_whole T) (hr.mono (by decide)) hG (L2N.takes_of rfl rfl rfl rfl) rfl T.u_is_whole.mg T.u_is_whole.kp T.u_is_whole.bi rfl (ar_d (e_var (pv 2)) (ar_d e_int (ar_d (e_gc rfl T.c_SPARE (fun _ _ => rfl)) ar_nil))))))) (s_one s_never) s_nil) (s_cons (s_fset T.hall.cls T.hall.ng (pv 0) (e_var (pv 1))) (s_one (s_fset T.hall.cls T.hall.ns (pv 0) (e_var (pv 2))))))
theorem ok_Hall_len (T : Tx K mg C a d) : FnG P w K mg base 1 (a 4) (d 4) ["self"] (spD ⟨C, mg, K, w, P⟩ 1 (f_Hall_len C)) :=
  fnD T.u_Hall_len.fn sc_Hall_len rfl (by decide) fun cdv A outer s H E hr hG => s_one (s_ret (e_lenRg rfl T.b_len rfl T.b_range (e_hg T.hall (e_var (pv 0)))))
theorem ok_Hall_repr (T : Tx K mg C a d) : FnG P w K mg base 1 (a 5) (d 5) ["self"] (spD ⟨C, mg, K, w, P⟩ 1 (f_Hall_repr C)) :=
  fnD T.u_Hall_repr.fn sc_Hall_repr rfl (by decide) fun cdv A outer s H E hr hG => s_one (s_ret (e_fstr (pj_cons e_str (pj_cons (e_fmt (e_hg T.hall (e_var (pv 0)))) (pj_cons e_str (pj_cons (e_fmt (e_hs T.hall (e_var (pv 0)))) (pj_cons e_str pj_nil)))))))
theorem ok_Hall_str (T : Tx K mg C a d) : FnG P w K mg base 1 (a 6) (d 6) ["self"] (spD ⟨C, mg, K, w, P⟩ 1 (f_Hall_str C)) :=
  fnD T.u_Hall_str.fn sc_Hall_str rfl (by decide) fun cdv A outer s H E hr hG => s_one (s_ret (e_fstr (pj_cons (e_fmt (e_hg T.hall (e_var (pv 0)))) (pj_cons e_str (pj_cons (e_fmt (e_hs T.hall (e_var (pv 0)))) pj_nil)))))
theorem ok_Hall_seats (T : Tx K mg C a d) : FnG P w K mg base 1 (a 7) (d 7) ["self"] (spD ⟨C, mg, K, w, P⟩ 1 (f_Hall_seats C)) :=
  fnD T.u_Hall_seats.fn sc_Hall_seats rfl (by decide) fun cdv A outer s H E hr hG => s_one (s_ret (e_add (e_hg T.hall (e_var (pv 0))) (e_hs T.hall (e_var (pv 0)))))
theorem ok_Lone_right (T : Tx K mg C a d) : FnG P w K mg base 4 (a 8) (d 8) ["_law_heads", "_law_more"] (spD ⟨C, mg, K, w, P⟩ 2 (f_Lone_right C)) :=
  fnD T.u_Lone_right.fn sc_Lone_right rfl (by decide) fun cdv A outer s H E hr hG => s_cons (s_set sc_Lone_right.nd rfl (Or.inl rfl) (e_hall (c_mkK (ks := ["spare"]) T.mkC (ok_Hall_init T) (hr.mono (by decide)) hG (L2N.takes_of rfl rfl rfl rfl) rfl T.g_Hall (km_1_spare T) rfl (a_cons (e_var (pv 0)) a_nil) (k_cons (e_var (pv 1)) k_nil)))) (s_cons (s_if (t_cmp (op_nes hr.units) fits_ne (b_call (call_reprE hG (room100 hr)) fits_reprE rfl T.b_repr boot_repr (a_cons (e_lst (a_cons (e_hg T.hall (e_var (pv 2))) (a_cons (e_hs T.hall (e_var (pv 2))) (a_cons (e_res (c_hm0 T.hall (ok_Hall_seats T) (hr.mono (by decide)) hG (L2N.takes_of rfl rfl rfl rfl) T.u_Hall_seats.me T.u_Hall_seats.bi rfl (e_var (pv 2)) (by decide +kernel))) (a_cons (e_hlen T.hall (ok_Hall_len T) (hr.mono (by decide)) hG (L2N.takes_of rfl rfl rfl rfl) T.u_Hall_len.me T.u_Hall_len.bi rfl rfl T.b_len (e_var (pv 2))) a_nil))))) a_nil)) (b_call (call_reprE hG (room100 hr)) fits_reprE rfl T.b_repr boot_repr (a_cons (e_lst (a_cons (e_var (pv 0)) (a_cons (e_var (pv 1)) (a_cons (e_add (e_var (pv 0)) (e_var (pv 1))) (a_cons (e_var (pv 0)) a_nil))))) a_nil)) rfl) (s_one (s_ret e_bl)) s_nil) (s_cons (s_if (PW.pt (w_or (t_cmp (op_nes hr.units) fits_ne (e_hstr T.hall (ok_Hall_str T) (hr.mono (by decide)) hG (L2N.takes_of rfl rfl rfl rfl) T.u_Hall_str.me T.u_Hall_str.bi rfl rfl T.b_str (e_var (pv 2))) (e_add (e_add (b_callT (call_txtD hG (room100 hr)) fits_txtD rfl T.b_str PyProof.Rows.Boot.str (a_cons (e_var (pv 0)) a_nil)) e_str) (b_callT (call_txtD hG (room100 hr)) fits_txtD rfl T.b_str PyProof.Rows.Boot.str (a_cons (e_var (pv 1)) a_nil))) rfl) (w_or1 (t_cmp (op_nes hr.units) fits_ne (e_repX T.hall (ok_Hall_repr T) (hr.mono (by decide)) hG (L2N.takes_of rfl rfl rfl rfl) T.u_Hall_repr.me T.u_Hall_repr.bi rfl rfl T.b_repr (e_var (pv 2))) (e_add (e_add (e_add (e_add e_str (b_callT (call_txtD hG (room100 hr)) fits_txtD rfl T.b_str PyProof.Rows.Boot.str (a_cons (e_var (pv 0)) a_nil))) e_str) (b_callT (call_txtD hG (room100 hr)) fits_txtD rfl T.b_str PyProof.Rows.Boot.str (a_cons (e_var (pv 1)) a_nil))) e_str) rfl)))) (s_one (s_ret e_bl)) s_nil) (s_cons (s_set sc_Lone_right.nd rfl (Or.inl rfl) (e_hall (c_mkK0 (ks := ["spare", "guests"]) T.mkC (ok_Hall_init T) (hr.mono (by decide)) hG (L2N.takes_of rfl rfl rfl rfl) rfl T.g_Hall (km_0_spare_guests T) rfl (k_cons (e_var (pv 1)) (k_cons (e_var (pv 0)) k_nil))))) (s_cons (s_if (PW.pt (w_or (t_not (t_heq (ok_Hall_eq T) T.eqf T.u_Hall_eq.bi rfl (hr.mono (by decide)) hG (L2N.takes_of rfl rfl rfl rfl) false (e_var (pv 2)) (e_var (pv 3)) rfl)) (w_or (t_heq (ok_Hall_eq T) T.eqf T.u_Hall_eq.bi rfl (hr.mono (by decide)) hG (L2N.takes_of rfl rfl rfl rfl) true (e_var (pv 2)) (e_var (pv 3)) rfl) (w_or1 (t_not (t_htru (ok_Hall_len T) (hr.mono (by decide)) hG (L2N.takes_of rfl rfl rfl rfl) T.u_Hall_len.me T.hbl T.u_Hall_len.bi rfl (e_var (pv 2)))))))) (s_one (s_ret e_bl)) s_nil) (s_one (s_ret (e_or (e_cmp op_gt fits_gt (e_var (pv 1)) e_int rfl) (e_one (e_and (e_heq (ok_Hall_eq T) T.eqf T.u_Hall_eq.bi rfl (hr.mono (by decide)) hG (L2N.takes_of rfl rfl rfl rfl) false (e_hall (c_mk T.mkC (ok_Hall_init T) (hr.mono (by decide)) hG (L2N.takes_of rfl rfl rfl rfl) rfl T.g_Hall (km_1__d T).choose_spec rfl (a_cons (e_var (pv 0)) a_nil))) (e_var (pv 2)) rfl) (e_one (e_cmp (op_eqs hr.units) fits_eq (e_hs T.hall (e_hall (c_mkK0 (ks := ["guests"]) T.mkC (ok_Hall_init T) (hr.mono (by decide)) hG (L2N.takes_of rfl rfl rfl rfl) rfl T.g_Hall (km_0_guests_d T).choose_spec rfl (k_cons (e_var (pv 0)) k_nil)))) e_int rfl)))))))))))
theorem ok_Lpool (T : Tx K mg C a d) : FnG P w K mg base 1 (a 9) (d 9) ["_law_cell_here"] (spD ⟨C, mg, K, w, P⟩ 1 (f_Lpool C)) :=
  fnD T.u_Lpool.fn sc_Lpool rfl (by decide) fun cdv A outer s H E hr hG => s_cons (s_set sc_Lpool.nd rfl (Or.inl rfl) e_int) (s_cons (s_if (PW.pt (w_or (t_cmp op_lt fits_lt (e_var (pv 0)) e_int rfl) (w_or1 (t_cmp op_ge fits_ge (e_var (pv 0)) (e_pow e_int e_int) rfl)))) (s_one (s_set sc_Lpool.nd rfl (Or.inl rfl) (b_call call_abs fits_abs rfl T.b_abs boot_abs (a_cons (e_var (pv 0)) a_nil)))) s_nil) (s_one (s_retO (o_lst (a_cons (e_mod (e_var (pv 0)) e_int) (a_cons (e_var (pv 1)) (a_cons e_int a_nil)))))))
theorem ok_Ltake (T : Tx K mg C a d) : FnG P w K mg base 1 (a 10) (d 10) ["_law_pool_here", "_law_wide"] (spD ⟨C, mg, K, w, P⟩ 2 (f_Ltake C)) :=
  fnD T.u_Ltake.fn sc_Ltake rfl (by decide) fun cdv A outer s H E hr hG => s_cons (s_asgw (e_add (e_oix (pv 0) e_int) e_int) (g_oset (W := W0) (pv 0) e_int)) (s_cons (s_set sc_Ltake.nd rfl (Or.inl rfl) (e_oix (pv 0) e_int)) (s_cons (s_asgw (e_mod (b_callT call_int1 fits_int rfl T.b_int boot_int (a_cons (e_add (e_mul (e_var (pv 2)) (e_add (e_mod (b_callT call_int1 fits_int rfl T.b_int boot_int (a_cons (e_var (pv 2)) a_nil)) e_int) e_int)) (e_mul e_int (e_oix (pv 0) e_int))) a_nil)) e_int) (g_oset (W := W0) (pv 0) e_int)) (s_cons (s_if (t_cmp op_gt fits_gt (e_oix (pv 0) e_int) e_int rfl) (s_cons (s_asgw (b_call call_divmod fits_divmod rfl T.b_divmod boot_divmod (a_cons (e_oix (pv 0) e_int) (a_cons (e_var (pv 1)) a_nil))) (g_tupw rfl (gw_cons (g_oset (W := W0) (pv 0) e_int) (gw_cons (g_w (g_name sc_Ltake.nd rfl (Or.inl rfl))) gw_nil)) rfl)) (s_one (s_ret (e_var (pv 3))))) s_nil) (s_one (s_ret (e_mod (e_fdiv (e_oix (pv 0) e_int) e_int) (e_var (pv 1))))))))
theorem ok_Lsizes (T : Tx K mg C a d) : FnG P w K mg base 2 (a 11) (d 11) ["_law_pool_here", "_law_upto"] (spD ⟨C, mg, K, w, P⟩ 2 (f_Lsizes C)) :=
  fnD T.u_Lsizes.fn sc_Lsizes rfl (by decide) fun cdv A outer s H E hr hG => s_cons (s_par2 rfl sc_Lsizes.nd rfl rfl (by decide) rfl rfl (v_d (e_add e_int (e_res (c_pos (ok_Ltake T) (hr.mono (by decide)) hG (L2N.takes_of rfl rfl rfl rfl) rfl T.u_Ltake.mg T.u_Ltake.kp T.u_Ltake.bi rfl (ar_o (pv 0) (ar_d (e_var (pv 1)) ar_nil))))) (v_d (e_res (c_pos (ok_Ltake T) (hr.mono (by decide)) hG (L2N.takes_of rfl rfl rfl rfl) rfl T.u_Ltake.mg T.u_Ltake.kp T.u_Ltake.bi rfl (ar_o (pv 0) (ar_d e_int ar_nil)))) v_nil))) (s_cons (s_if (t_cmp (op_eqs hr.units) fits_eq (e_res (c_pos (ok_Ltake T) (hr.mono (by decide)) hG (L2N.takes_of rfl rfl rfl rfl) rfl T.u_Ltake.mg T.u_Ltake.kp T.u_Ltake.bi rfl (ar_o (pv 0) (ar_d e_int ar_nil)))) e_int rfl) (s_one (s_set sc_Lsizes.nd rfl (Or.inl rfl) (e_add e_int (e_res (c_pos (ok_Ltake T) (hr.mono (by decide)) hG (L2N.takes_of rfl rfl rfl rfl) rfl T.u_Ltake.mg T.u_Ltake.kp T.u_Ltake.bi rfl (ar_o (pv 0) (ar_d e_int ar_nil))))))) s_nil) (s_cons (s_if (t_cmp (op_eqs hr.units) fits_eq (e_res (c_pos (ok_Ltake T) (hr.mono (by decide)) hG (L2N.takes_of rfl rfl rfl rfl) rfl T.u_Ltake.mg T.u_Ltake.kp T.u_Ltake.bi rfl (ar_o (pv 0) (ar_d e_int ar_nil)))) e_int rfl) (s_one (s_set sc_Lsizes.nd rfl (Or.inl rfl) (e_res (c_pos (ok_Ltake T) (hr.mono (by decide)) hG (L2N.takes_of rfl rfl rfl rfl) rfl T.u_Ltake.mg T.u_Ltake.kp T.u_Ltake.bi rfl (ar_o (pv 0) (ar_d e_int ar_nil)))))) s_nil) (s_one (s_ret (e_tup (a_cons (e_var (pv 2)) (a_cons (e_var (pv 3)) a_nil)))))))
theorem ok_Ltwo_right (T : Tx K mg C a d) : FnG P w K mg base 4 (a 12) (d 12) ["_law_pool_here"] (spD ⟨C, mg, K, w, P⟩ 1 (f_Ltwo_right C)) :=
  fnD T.u_Ltwo_right.fn sc_Ltwo_right rfl (by decide) fun cdv A outer s H E hr hG => s_cons (s_par2 rfl sc_Ltwo_right.nd rfl rfl (by decide) rfl rfl (v_d (e_res (c_pos (ok_Lsizes T) (hr.mono (by decide)) hG (L2N.takes_of rfl rfl rfl rfl) rfl T.u_Lsizes.mg T.u_Lsizes.kp T.u_Lsizes.bi rfl (ar_o (pv 0) (ar_d e_int ar_nil)))) (v_d (e_res (c_pos (ok_Lsizes T) (hr.mono (by decide)) hG (L2N.takes_of rfl rfl rfl rfl) rfl T.u_Lsizes.mg T.u_Lsizes.kp T.u_Lsizes.bi rfl (ar_o (pv 0) (ar_d e_int ar_nil)))) v_nil))) (s_cons (s_asgw (e_tup (a_cons (e_hall (c_mkK (ks := ["spare"]) T.mkC (ok_Hall_init T) (hr.mono (by decide)) hG (L2N.takes_of rfl rfl rfl rfl) rfl T.g_Hall (km_1_spare T) rfl (a_cons (e_ix (e_var (pv 1)) e_int) a_nil) (k_cons (e_ix (e_var (pv 1)) e_int) k_nil))) (a_cons (e_hall (c_mkK (ks := ["spare"]) T.mkC (ok_Hall_init T) (hr.mono (by decide)) hG (L2N.takes_of rfl rfl rfl rfl) rfl T.g_Hall (km_1_spare T) rfl (a_cons (e_ix (e_var (pv 2)) e_int) a_nil) (k_cons (e_ix (e_var (pv 2)) e_int) k_nil))) a_nil))) (g_tupw rfl (gw_cons (g_w (g_name sc_Ltwo_right.nd rfl (Or.inr rfl))) (gw_cons (g_w (g_name sc_Ltwo_right.nd rfl (Or.inl rfl))) gw_nil)) rfl)) (s_cons (s_set sc_Ltwo_right.nd rfl (Or.inl rfl) (e_cmp (op_eqs hr.units) fits_eq (e_var (pv 1)) (e_var (pv 2)) rfl)) (s_cons (s_if (t_cmp (op_nes hr.units) fits_ne (b_call (call_reprE hG (room100 hr)) fits_reprE rfl T.b_repr boot_repr (a_cons (e_lst (a_cons (e_heq (ok_Hall_eq T) T.eqf T.u_Hall_eq.bi rfl (hr.mono (by decide)) hG (L2N.takes_of rfl rfl rfl rfl) false (e_var (pv 3)) (e_var (pv 4)) rfl) (a_cons (e_heq (ok_Hall_eq T) T.eqf T.u_Hall_eq.bi rfl (hr.mono (by decide)) hG (L2N.takes_of rfl rfl rfl rfl) false (e_var (pv 4)) (e_var (pv 3)) rfl) (a_cons (e_hin (ok_Hall_eq T) T.eqf T.u_Hall_eq.bi rfl (hr.mono (by decide)) hG (L2N.takes_of rfl rfl rfl rfl) (e_var (pv 3)) (e_lst (a_cons (e_var (pv 4)) a_nil)) rfl) (a_cons (e_not (e_heq (ok_Hall_eq T) T.eqf T.u_Hall_eq.bi rfl (hr.mono (by decide)) hG (L2N.takes_of rfl rfl rfl rfl) true (e_var (pv 3)) (e_var (pv 4)) rfl)) a_nil))))) a_nil)) (b_call (call_reprE hG (room100 hr)) fits_reprE rfl T.b_repr boot_repr (a_cons (e_mul (e_lst (a_cons (e_var (pv 5)) a_nil)) e_int) a_nil)) rfl) (s_one (s_ret e_bl)) s_nil) (s_cons (s_setO sc_Ltwo_right.nd rfl (Or.inl rfl) (o_lst (a_cons (e_hall (c_mkK (ks := ["spare"]) T.mkC (ok_Hall_init T) (hr.mono (by decide)) hG (L2N.takes_of rfl rfl rfl rfl) rfl T.g_Hall (km_1_spare T) rfl (a_cons (e_add e_int (e_mod (b_callT call_int1 fits_int rfl T.b_int boot_int (a_cons (e_ix (e_var (pv 1)) e_int) a_nil)) e_int)) a_nil) (k_cons (e_ix (e_var (pv 1)) e_int) k_nil))) (a_cons (e_hall (c_mkK (ks := ["spare"]) T.mkC (ok_Hall_init T) (hr.mono (by decide)) hG (L2N.takes_of rfl rfl rfl rfl) rfl T.g_Hall (km_1_spare T) rfl (a_cons (e_ix (e_var (pv 1)) e_int) a_nil) (k_cons (e_mod (b_callT call_int1 fits_int rfl T.b_int boot_int (a_cons (e_add (e_ix (e_var (pv 1)) e_int) e_int) a_nil)) e_int) k_nil))) a_nil)))) (s_cons (s_if (PW.pt (w_and (t_cmp op_lt fits_lt (e_ix (e_var (pv 1)) e_int) e_int rfl) (w_and1 (t_cmp op_gt fits_gt (e_ix (e_var (pv 1)) e_int) e_int rfl)))) (s_one (s_expr (e_oapp (pv 6) (e_hall (c_mkK (ks := ["spare"]) T.mkC (ok_Hall_init T) (hr.mono (by decide)) hG (L2N.takes_of rfl rfl rfl rfl) rfl T.g_Hall (km_1_spare T) rfl (a_cons (e_add (e_ix (e_var (pv 1)) e_int) e_int) a_nil) (k_cons (e_sub (e_ix (e_var (pv 1)) e_int) e_int) k_nil)))))) s_nil) (s_cons (s_if (PW.pt (w_and (t_cmp op_gt fits_gt (e_ix (e_var (pv 1)) e_int) e_int rfl) (w_and1 (t_cmp op_lt fits_lt (e_ix (e_var (pv 1)) e_int) e_int rfl)))) (s_one (s_expr (e_oapp (pv 6) (e_hall (c_mkK (ks := ["spare"]) T.mkC (ok_Hall_init T) (hr.mono (by decide)) hG (L2N.takes_of rfl rfl rfl rfl) rfl T.g_Hall (km_1_spare T) rfl (a_cons (e_sub (e_ix (e_var (pv 1)) e_int) e_int) a_nil) (k_cons (e_add (e_ix (e_var (pv 1)) e_int) e_int) k_nil)))))) s_nil) (s_cons (s_if (PW.pt (w_or (t_tru (b_call (cr_any rfl) fits_any rfl T.b_any boot_any (a_cons (e_frz (o_lc (own := [("_law_part", 8)]) rfl sc_Ltwo_right.nd (i_lst (e_frv (pv 6))) (blkOk_by (own := [("_law_part", 8)]) (N := ["_law_pool_here", "_law_one", "_law_other", "_law_inn", "_law_mate", "_law_alike", "_law_near", "_law_things", "_law_part", "_law_thing"]) (sc := (defScope s_Ltwo_right)) (by first | decide +kernel | kernel_rfl)) (by decide) (fun _ _ _ _ h => setI_nox h) (fun _ _ _ _ _ => g_name sc_Ltwo_right.nd rfl (Or.inl rfl)) (fun _ _ _ _ _ => c_yes) (fun _ _ _ _ _ => e_heq (ok_Hall_eq T) T.eqf T.u_Hall_eq.bi rfl (hr.mono (by decide)) hG takes0N false (e_var (pv 3)) (e_var (pv 8)) rfl))) a_nil))) (w_or1 (t_not (t_tru (b_call (cr_all rfl) fits_all rfl T.b_all boot_all (a_cons (e_frz (o_lc (own := [("_law_part", 8)]) rfl sc_Ltwo_right.nd (i_lst (e_frv (pv 6))) (blkOk_by (own := [("_law_part", 8)]) (N := ["_law_pool_here", "_law_one", "_law_other", "_law_inn", "_law_mate", "_law_alike", "_law_near", "_law_things", "_law_part", "_law_thing"]) (sc := (defScope s_Ltwo_right)) (by first | decide +kernel | kernel_rfl)) (by decide) (fun _ _ _ _ h => setI_nox h) (fun _ _ _ _ _ => g_name sc_Ltwo_right.nd rfl (Or.inl rfl)) (fun _ _ _ _ _ => c_yes) (fun _ _ _ _ _ => e_heq (ok_Hall_eq T) T.eqf T.u_Hall_eq.bi rfl (hr.mono (by decide)) hG takes0N true (e_var (pv 3)) (e_var (pv 8)) rfl))) a_nil))))))) (s_one (s_ret e_bl)) s_nil) (s_cons (s_set sc_Ltwo_right.nd rfl (Or.inl rfl) (e_lst (a_cons e_non (a_cons e_bl (a_cons (e_ix (e_var (pv 1)) e_int) (a_cons (e_var (pv 1)) (a_cons (e_hstr T.hall (ok_Hall_str T) (hr.mono (by decide)) hG (L2N.takes_of rfl rfl rfl rfl) T.u_Hall_str.me T.u_Hall_str.bi rfl rfl T.b_str (e_var (pv 3))) (a_cons (e_repX T.hall (ok_Hall_repr T) (hr.mono (by decide)) hG (L2N.takes_of rfl rfl rfl rfl) T.u_Hall_repr.me T.u_Hall_repr.bi rfl rfl T.b_repr (e_var (pv 3))) (a_cons (e_lst (a_cons (e_var (pv 3)) a_nil)) (a_cons (e_tup (a_cons (e_var (pv 3)) a_nil)) (a_cons e_emp (a_cons (b_callT call_list_of fits_list rfl T.b_list boot_list (a_cons (e_var (pv 1)) a_nil)) (a_cons (e_tup a_nil) (a_cons (e_tup (a_cons (e_lst a_nil) a_nil)) (a_cons (e_pow e_int e_int) a_nil))))))))))))))) (s_cons (s_if (PW.pt (w_or (t_tru (b_call (cr_any rfl) fits_any rfl T.b_any boot_any (a_cons (e_frz (o_lc (own := [("_law_thing", 9)]) rfl sc_Ltwo_right.nd (i_lst (e_var (pv 7))) (blkOk_by (own := [("_law_thing", 9)]) (N := ["_law_pool_here", "_law_one", "_law_other", "_law_inn", "_law_mate", "_law_alike", "_law_near", "_law_things", "_law_part", "_law_thing"]) (sc := (defScope s_Ltwo_right)) (by first | decide +kernel | kernel_rfl)) (by decide) (fun _ _ _ _ h => setI_nox h) (fun _ _ _ _ _ => g_name sc_Ltwo_right.nd rfl (Or.inl rfl)) (fun _ _ _ _ _ => c_yes) (fun _ _ _ _ _ => e_heq (ok_Hall_eq T) T.eqf T.u_Hall_eq.bi rfl (hr.mono (by decide)) hG takes0N false (e_var (pv 9)) (e_var (pv 3)) rfl))) a_nil))) (w_or1 (t_not (t_tru (b_call (cr_all rfl) fits_all rfl T.b_all boot_all (a_cons (e_frz (o_lc (own := [("_law_thing", 9)]) rfl sc_Ltwo_right.nd (i_lst (e_var (pv 7))) (blkOk_by (own := [("_law_thing", 9)]) (N := ["_law_pool_here", "_law_one", "_law_other", "_law_inn", "_law_mate", "_law_alike", "_law_near", "_law_things", "_law_part", "_law_thing"]) (sc := (defScope s_Ltwo_right)) (by first | decide +kernel | kernel_rfl)) (by decide) (fun _ _ _ _ h => setI_nox h) (fun _ _ _ _ _ => g_name sc_Ltwo_right.nd rfl (Or.inl rfl)) (fun _ _ _ _ _ => c_yes) (fun _ _ _ _ _ => e_heq (ok_Hall_eq T) T.eqf T.u_Hall_eq.bi rfl (hr.mono (by decide)) hG takes0N true (e_var (pv 9)) (e_var (pv 3)) rfl))) a_nil))))))) (s_one (s_ret e_bl)) s_nil) (s_one (s_ret (e_and (e_not (b_call (cr_any rfl) fits_any rfl T.b_any boot_any (a_cons (e_frz (o_lc (own := [("_law_thing", 9)]) rfl sc_Ltwo_right.nd (i_lst (e_var (pv 7))) (blkOk_by (own := [("_law_thing", 9)]) (N := ["_law_pool_here", "_law_one", "_law_other", "_law_inn", "_law_mate", "_law_alike", "_law_near", "_law_things", "_law_part", "_law_thing"]) (sc := (defScope s_Ltwo_right)) (by first | decide +kernel | kernel_rfl)) (by decide) (fun _ _ _ _ h => setI_nox h) (fun _ _ _ _ _ => g_name sc_Ltwo_right.nd rfl (Or.inl rfl)) (fun _ _ _ _ _ => c_yes) (fun _ _ _ _ _ => e_heq (ok_Hall_eq T) T.eqf T.u_Hall_eq.bi rfl (hr.mono (by decide)) hG takes0N false (e_var (pv 3)) (e_var (pv 9)) rfl))) a_nil))) (e_one (b_call (cr_all rfl) fits_all rfl T.b_all boot_all (a_cons (e_frz (o_lc (own := [("_law_thing", 9)]) rfl sc_Ltwo_right.nd (i_lst (e_var (pv 7))) (blkOk_by (own := [("_law_thing", 9)]) (N := ["_law_pool_here", "_law_one", "_law_other", "_law_inn", "_law_mate", "_law_alike", "_law_near", "_law_things", "_law_part", "_law_thing"]) (sc := (defScope s_Ltwo_right)) (by first | decide +kernel | kernel_rfl)) (by decide) (fun _ _ _ _ h => setI_nox h) (fun _ _ _ _ _ => g_name sc_Ltwo_right.nd rfl (Or.inl rfl)) (fun _ _ _ _ _ => c_yes) (fun _ _ _ _ _ => e_heq (ok_Hall_eq T) T.eqf T.u_Hall_eq.bi rfl (hr.mono (by decide)) hG takes0N true (e_var (pv 3)) (e_var (pv 9)) rfl))) a_nil)))))))))))))))
theorem ok_law (T : Tx K mg C a d) : FnG P w K mg base 5 (a 13) (d 13) ["_law_script"] (spD ⟨C, mg, K, w, P⟩ 1 (f_law C)) :=
  fnD T.u_law.fn sc_law rfl (by decide) fun cdv A outer s H E hr hG => s_cons (s_if (t_cmp (op_nes hr.units) fits_ne (b_call (call_reprE hG (room100 hr)) fits_reprE rfl T.b_repr boot_repr (a_cons (e_lst (a_cons (e_gc rfl T.c_MOST (fun _ _ => rfl)) (a_cons (e_gc rfl T.c_SPARE (fun _ _ => rfl)) (a_cons (e_gc rfl T.c_FAR (fun _ _ => rfl)) a_nil)))) a_nil)) (b_call (call_reprE hG (room100 hr)) fits_reprE rfl T.b_repr boot_repr (a_cons (e_lst (a_cons e_int (a_cons e_int (a_cons (e_pow e_int e_int) a_nil)))) a_nil)) rfl) (s_one (s_ret e_bl)) s_nil) (s_cons (s_for (passes_of rfl) rfl (i_rng2 rfl T.b_range (a_cons e_int (a_cons e_int a_nil))) (g_name sc_law.nd rfl (Or.inr rfl)) (s_one (s_if (t_not (t_tru (b_call (cr_all rfl) fits_all rfl T.b_all boot_all (a_cons (e_frz (o_lc (own := [("_law_more", 4)]) rfl sc_law.nd (i_rng1 rfl T.b_range (a_cons e_int a_nil)) (blkOk_by (own := [("_law_more", 4)]) (N := ["_law_script", "_law_heads", "_law_k", "_law_pool_here", "_law_more", "_law_turn"]) (sc := (defScope s_law)) (by first | decide +kernel | kernel_rfl)) (by decide) (fun _ _ _ _ h => setI_nox h) (fun _ _ _ _ _ => g_name sc_law.nd rfl (Or.inl rfl)) (fun _ _ _ _ _ => c_yes) (fun _ _ _ _ _ => e_res (c_pos (ok_Lone_right T) (hr.mono (by decide)) hG takes0N rfl T.u_Lone_right.mg T.u_Lone_right.kp T.u_Lone_right.bi rfl (ar_d (e_var (pv 1)) (ar_d (e_var (pv 4)) ar_nil)))))) a_nil)))) (s_one (s_ret e_bl)) s_nil)) (fun _ _ _ _ h => setI_nox h)) (s_cons (s_for (passes_of rfl) rfl (i_rng1 rfl T.b_range (a_cons (b_call (call_max2 rfl) fits_max2 rfl T.b_max boot_max (a_cons e_int (a_cons (b_call (call_min2 rfl) fits_min2 rfl T.b_min boot_min (a_cons (b_call call_len fits_len rfl T.b_len boot_len (a_cons (e_var (pv 0)) a_nil)) (a_cons e_int a_nil))) a_nil))) a_nil)) (g_name sc_law.nd rfl (Or.inl rfl)) (s_cons (s_setO sc_law.nd rfl (Or.inr rfl) (o_res (c_pos (ok_Lpool T) (hr.mono (by decide)) hG (L2N.takes_of rfl rfl rfl rfl) rfl T.u_Lpool.mg T.u_Lpool.kp T.u_Lpool.bi rfl (ar_d (e_res (c_pos (ok_Lcell T) (hr.mono (by decide)) hG (L2N.takes_of rfl rfl rfl rfl) rfl T.u_Lcell.mg T.u_Lcell.kp T.u_Lcell.bi rfl (ar_d (e_var (pv 0)) (ar_d (e_var (pv 2)) ar_nil)))) ar_nil)))) (s_one (s_if (t_not (t_tru (b_call (cr_all rfl) fits_all rfl T.b_all boot_all (a_cons (e_frz (o_lc (own := [("_law_turn", 5)]) rfl sc_law.nd (i_rng1 rfl T.b_range (a_cons e_int a_nil)) (blkOk_by (own := [("_law_turn", 5)]) (N := ["_law_script", "_law_heads", "_law_k", "_law_pool_here", "_law_more", "_law_turn"]) (sc := (defScope s_law)) (by first | decide +kernel | kernel_rfl)) (by decide) (fun _ _ _ _ h => setI_nox h) (fun _ _ _ _ _ => g_name sc_law.nd rfl (Or.inl rfl)) (fun _ _ _ _ _ => c_yes) (fun _ _ _ _ _ => e_res (c_pos (ok_Ltwo_right T) (hr.mono (by decide)) hG takes0N rfl T.u_Ltwo_right.mg T.u_Ltwo_right.kp T.u_Ltwo_right.bi rfl (ar_o (pv 3) ar_nil))))) a_nil)))) (s_one (s_ret e_bl)) s_nil))) (fun _ _ _ _ h => setI_nox h)) (s_one (s_ret e_bl))))
end
theorem all_mk {qq : Program} {l : PySem.W.OpenLaw} {w : World} {K : PySem.W.Frag} {h : Heap} {mg : Str → Option Value} {fa C : Addr} (X : K.In h) (G : h.Ns mainGlobals mg) (hfa : mg "law" = some (.ref fa))
    {f0 f1 f2 f3 f4 f5 f6 f7 f8 f9 f10 f11 f12 f13 kd3 : Addr} {od0 an0 od1 an1 od2 an2 od3 an3 od4 an4 od5 an5 od6 an6 od7 an7 od8 an8 od9 an9 od10 an10 od11 an11 od12 an12 od13 an13 : Option Addr} {sl0 sl1 sl2 sl3 sl4 sl5 sl6 sl7 sl8 sl9 sl10 sl11 sl12 sl13 : Array (Option Value)} {oc0 kV0 dc0 pm0 cd0 ct0 oc1 kV1 dc1 pm1 cd1 ct1 oc2 kV2 dc2 pm2 cd2 ct2 oc3 dc3 pm3 cd3 ct3 oc4 kV4 dc4 pm4 cd4 ct4 oc5 kV5 dc5 pm5 cd5 ct5 oc6 kV6 dc6 pm6 cd6 ct6 oc7 kV7 dc7 pm7 cd7 ct7 oc8 kV8 dc8 pm8 cd8 ct8 oc9 kV9 dc9 pm9 cd9 ct9 oc10 kV10 dc10 pm10 cd10 ct10 oc11 kV11 dc11 pm11 cd11 ct11 oc12 kV12 dc12 pm12 cd12 ct12 oc13 kV13 dc13 pm13 cd13 ct13 : Value}
    (l0 : K.lookup f0 = some ⟨oc0, od0, .func (PySem.W.fnOf "_law_cell" "_law_cell" (defArgs s_Lcell) (defBody s_Lcell) (defScope s_Lcell) .none kV0 dc0 pm0 an0 cd0 ct0), sl0⟩) (c0 : PySem.W.codeIn K cd0 "_law_cell" = true) (k0 : PySem.W.keepIn K (.ref f0) = true)
    (a0 : PySem.W.nsIn K mainGlobals "_law_cell" = some (some (.ref f0)))
    (l1 : K.lookup f1 = some ⟨oc1, od1, .func (PySem.W.fnOf "__eq__" "Hall.__eq__" (defArgs s_Hall_eq) (defBody s_Hall_eq) (defScope s_Hall_eq) .none kV1 dc1 pm1 an1 cd1 ct1), sl1⟩) (c1 : PySem.W.codeIn K cd1 "Hall.__eq__" = true) (k1 : PySem.W.keepIn K (.ref f1) = true)
    (a1 : PySem.W.findIn K (.ref C) "__eq__" = some (some (.ref f1))) (i1 : PySem.W.isFn K (.ref f1) = true)
    (l2 : K.lookup f2 = some ⟨oc2, od2, .func (PySem.W.fnOf "is_whole" "is_whole" (defArgs s_is_whole) (defBody s_is_whole) (defScope s_is_whole) .none kV2 dc2 pm2 an2 cd2 ct2), sl2⟩) (c2 : PySem.W.codeIn K cd2 "is_whole" = true) (k2 : PySem.W.keepIn K (.ref f2) = true)
    (a2 : PySem.W.nsIn K mainGlobals "is_whole" = some (some (.ref f2)))
    (l3 : K.lookup f3 = some ⟨oc3, od3, .func (PySem.W.fnOf "__init__" "Hall.__init__" (defArgs s_Hall_init) (defBody s_Hall_init) (defScope s_Hall_init) .none (.ref kd3) dc3 pm3 an3 cd3 ct3), sl3⟩) (c3 : PySem.W.codeIn K cd3 "Hall.__init__" = true) (k3 : PySem.W.keepIn K (.ref f3) = true)
    (a3 : PySem.W.findIn K (.ref C) "__init__" = some (some (.ref f3))) (i3 : PySem.W.isFn K (.ref f3) = true)
    (l4 : K.lookup f4 = some ⟨oc4, od4, .func (PySem.W.fnOf "__len__" "Hall.__len__" (defArgs s_Hall_len) (defBody s_Hall_len) (defScope s_Hall_len) .none kV4 dc4 pm4 an4 cd4 ct4), sl4⟩) (c4 : PySem.W.codeIn K cd4 "Hall.__len__" = true) (k4 : PySem.W.keepIn K (.ref f4) = true)
    (a4 : PySem.W.findIn K (.ref C) "__len__" = some (some (.ref f4))) (i4 : PySem.W.isFn K (.ref f4) = true)
    (l5 : K.lookup f5 = some ⟨oc5, od5, .func (PySem.W.fnOf "__repr__" "Hall.__repr__" (defArgs s_Hall_repr) (defBody s_Hall_repr) (defScope s_Hall_repr) .none kV5 dc5 pm5 an5 cd5 ct5), sl5⟩) (c5 : PySem.W.codeIn K cd5 "Hall.__repr__" = true) (k5 : PySem.W.keepIn K (.ref f5) = true)
    (a5 : PySem.W.findIn K (.ref C) "__repr__" = some (some (.ref f5))) (i5 : PySem.W.isFn K (.ref f5) = true)
    (l6 : K.lookup f6 = some ⟨oc6, od6, .func (PySem.W.fnOf "__str__" "Hall.__str__" (defArgs s_Hall_str) (defBody s_Hall_str) (defScope s_Hall_str) .none kV6 dc6 pm6 an6 cd6 ct6), sl6⟩) (c6 : PySem.W.codeIn K cd6 "Hall.__str__" = true) (k6 : PySem.W.keepIn K (.ref f6) = true)
    (a6 : PySem.W.findIn K (.ref C) "__str__" = some (some (.ref f6))) (i6 : PySem.W.isFn K (.ref f6) = true)
    (l7 : K.lookup f7 = some ⟨oc7, od7, .func (PySem.W.fnOf "seats" "Hall.seats" (defArgs s_Hall_seats) (defBody s_Hall_seats) (defScope s_Hall_seats) .none kV7 dc7 pm7 an7 cd7 ct7), sl7⟩) (c7 : PySem.W.codeIn K cd7 "Hall.seats" = true) (k7 : PySem.W.keepIn K (.ref f7) = true)
    (a7 : PySem.W.findIn K (.ref C) "seats" = some (some (.ref f7))) (i7 : PySem.W.isFn K (.ref f7) = true)
    (l8 : K.lookup f8 = some ⟨oc8, od8, .func (PySem.W.fnOf "_law_one_right" "_law_one_right" (defArgs s_Lone_right) (defBody s_Lone_right) (defScope s_Lone_right) .none kV8 dc8 pm8 an8 cd8 ct8), sl8⟩) (c8 : PySem.W.codeIn K cd8 "_law_one_right" = true) (k8 : PySem.W.keepIn K (.ref f8) = true)
    (a8 : PySem.W.nsIn K mainGlobals "_law_one_right" = some (some (.ref f8)))
    (l9 : K.lookup f9 = some ⟨oc9, od9, .func (PySem.W.fnOf "_law_pool" "_law_pool" (defArgs s_Lpool) (defBody s_Lpool) (defScope s_Lpool) .none kV9 dc9 pm9 an9 cd9 ct9), sl9⟩) (c9 : PySem.W.codeIn K cd9 "_law_pool" = true) (k9 : PySem.W.keepIn K (.ref f9) = true)
    (a9 : PySem.W.nsIn K mainGlobals "_law_pool" = some (some (.ref f9)))
    (l10 : K.lookup f10 = some ⟨oc10, od10, .func (PySem.W.fnOf "_law_take" "_law_take" (defArgs s_Ltake) (defBody s_Ltake) (defScope s_Ltake) .none kV10 dc10 pm10 an10 cd10 ct10), sl10⟩) (c10 : PySem.W.codeIn K cd10 "_law_take" = true) (k10 : PySem.W.keepIn K (.ref f10) = true)
    (a10 : PySem.W.nsIn K mainGlobals "_law_take" = some (some (.ref f10)))
    (l11 : K.lookup f11 = some ⟨oc11, od11, .func (PySem.W.fnOf "_law_sizes" "_law_sizes" (defArgs s_Lsizes) (defBody s_Lsizes) (defScope s_Lsizes) .none kV11 dc11 pm11 an11 cd11 ct11), sl11⟩) (c11 : PySem.W.codeIn K cd11 "_law_sizes" = true) (k11 : PySem.W.keepIn K (.ref f11) = true)
    (a11 : PySem.W.nsIn K mainGlobals "_law_sizes" = some (some (.ref f11)))
    (l12 : K.lookup f12 = some ⟨oc12, od12, .func (PySem.W.fnOf "_law_two_right" "_law_two_right" (defArgs s_Ltwo_right) (defBody s_Ltwo_right) (defScope s_Ltwo_right) .none kV12 dc12 pm12 an12 cd12 ct12), sl12⟩) (c12 : PySem.W.codeIn K cd12 "_law_two_right" = true) (k12 : PySem.W.keepIn K (.ref f12) = true)
    (a12 : PySem.W.nsIn K mainGlobals "_law_two_right" = some (some (.ref f12)))
    (l13 : K.lookup f13 = some ⟨oc13, od13, .func (PySem.W.fnOf "law" "law" (defArgs s_law) (defBody s_law) (defScope s_law) .none kV13 dc13 pm13 an13 cd13 ct13), sl13⟩) (c13 : PySem.W.codeIn K cd13 "law" = true) (k13 : PySem.W.keepIn K (.ref f13) = true)
    (a13 : PySem.W.nsIn K mainGlobals "law" = some (some (.ref f13)))
    {tkd : Tok} (qd : PySem.W.nsIn K kd3 "spare" = some (some (.int 0 tkd)))
    (gH : PySem.W.nsIn K mainGlobals "Hall" = some (some (.ref C)))
    (pg : PySem.W.plainGet K C Str.empty = true)
    (hd : PySem.W.hasDictIn K C = true)
    (po : PySem.W.plainOver K C = true)
    (sa : PySem.W.findIn K (.ref C) "__setattr__" = some (some (.builtin "object.__setattr__")))
    (hca : PySem.W.findIn K (.ref C) "__class__" = some (some (.builtin "object.__class__")))
    (hcn : PySem.W.specialIn K (.builtin "object.__class__") "__get__" = some (some (.builtin "getset_descriptor.__get__")))
    (hct : PySem.W.takesIn K (.builtin "object.__class__") = some true)
    (hcm : PySem.W.mroIn K C (.type "object") = some true)
    (ng : PySem.W.findIn K (.ref C) "guests" = some none)
    (ns : PySem.W.findIn K (.ref C) "spare" = some none)
    (mkC : PySem.W.makesIn K C = true)
    (kpC : PySem.W.keepIn K (.ref C) = true)
    (en : PySem.W.findIn K (.ref C) "__ne__" = some (some (.builtin "object.__ne__")))
    (eb : PySem.W.findIn K (.ref C) "__bool__" = some none)
    (mn0 : PySem.W.mroIn K C (.type "NoneType") = some false)
    (mn1 : PySem.W.mroIn K C (.type "bool") = some false)
    (mn2 : PySem.W.mroIn K C (.type "int") = some false)
    (mn3 : PySem.W.mroIn K C (.type "str") = some false)
    (mn4 : PySem.W.mroIn K C (.type "tuple") = some false)
    (mn5 : PySem.W.mroIn K C (.type "list") = some false)
    (mn6 : PySem.W.mroIn K C (.type "dict") = some false)
    (o0 : PySem.W.kitOne K (.type "NoneType") (.ref C) = some false)
    (o1 : PySem.W.kitOne K (.type "bool") (.ref C) = some false)
    (o2 : PySem.W.kitOne K (.type "int") (.ref C) = some false)
    (o3 : PySem.W.kitOne K (.type "str") (.ref C) = some false)
    (o4 : PySem.W.kitOne K (.type "bytes") (.ref C) = some false)
    (o5 : PySem.W.kitOne K (.type "tuple") (.ref C) = some false)
    (o6 : PySem.W.kitOne K (.type "list") (.ref C) = some false)
    (o7 : PySem.W.kitOne K (.type "dict") (.ref C) = some false)
    (oh : PySem.W.kitOne K (.ref C) (.ref C) = some true)
    (r0 : PySem.W.kitOne K (.ref C) (.type "int") = some false)
    (r1 : PySem.W.kitOne K (.ref C) (.type "bool") = some false)
    (r2 : PySem.W.kitOne K (.ref C) (.type "tuple") = some false)
    (r3 : PySem.W.kitOne K (.ref C) (.type "str") = some false)
    (r4 : PySem.W.kitOne K (.ref C) (.type "list") = some false)
    (r5 : PySem.W.kitOne K (.ref C) (.type "bytes") = some false)
    (z_abs : PySem.W.nsIn K mainGlobals "abs" = some none)
    (z_all : PySem.W.nsIn K mainGlobals "all" = some none)
    (z_any : PySem.W.nsIn K mainGlobals "any" = some none)
    (z_bool : PySem.W.nsIn K mainGlobals "bool" = some none)
    (z_divmod : PySem.W.nsIn K mainGlobals "divmod" = some none)
    (z_int : PySem.W.nsIn K mainGlobals "int" = some none)
    (z_isinstance : PySem.W.nsIn K mainGlobals "isinstance" = some none)
    (z_len : PySem.W.nsIn K mainGlobals "len" = some none)
    (z_list : PySem.W.nsIn K mainGlobals "list" = some none)
    (z_max : PySem.W.nsIn K mainGlobals "max" = some none)
    (z_min : PySem.W.nsIn K mainGlobals "min" = some none)
    (z_range : PySem.W.nsIn K mainGlobals "range" = some none)
    (z_repr : PySem.W.nsIn K mainGlobals "repr" = some none)
    (z_str : PySem.W.nsIn K mainGlobals "str" = some none)
    {t_FAR : Tok} (v_FAR : PySem.W.nsIn K mainGlobals "FAR" = some (some (.int 1000000000000000000000000000000 t_FAR)))
    {t_MOST : Tok} (v_MOST : PySem.W.nsIn K mainGlobals "MOST" = some (some (.int 24 t_MOST)))
    {t_SPARE : Tok} (v_SPARE : PySem.W.nsIn K mainGlobals "SPARE" = some (some (.int 6 t_SPARE)))
    : ∃ (cs : List (Addr × Addr × Str)) (C : Addr) (fd : FuncData), TabsBy qq K cs [] ∧ (∀ (s : Shared) (v : Value), BindsTo s fd ⟨[v], []⟩ [("_law_script", v)]) ∧ ∀ base : Heap, K.In base → base.Ns mainGlobals mg → (∀ p ∈ cs, LamX.TabB base mg p.1 p.2.1) → FnG l.prog w K mg base 5 fa fd ["_law_script"] (@spD ⟨cs.map (·.2)⟩ ⟨C, mg, K, w, l.prog⟩ 1 (f_law C)) := by
  have e := hfa.symm.trans (PySem.W.mg_of X G a13)
  cases e
  have F0 := fun_mk (st := s_Lcell) l0 c0 k0
  have F1 := fun_mk (st := s_Hall_eq) l1 c1 k1
  have F2 := fun_mk (st := s_is_whole) l2 c2 k2
  have F3 := fun_mk (st := s_Hall_init) l3 c3 k3
  have F4 := fun_mk (st := s_Hall_len) l4 c4 k4
  have F5 := fun_mk (st := s_Hall_repr) l5 c5 k5
  have F6 := fun_mk (st := s_Hall_str) l6 c6 k6
  have F7 := fun_mk (st := s_Hall_seats) l7 c7 k7
  have F8 := fun_mk (st := s_Lone_right) l8 c8 k8
  have F9 := fun_mk (st := s_Lpool) l9 c9 k9
  have F10 := fun_mk (st := s_Ltake) l10 c10 k10
  have F11 := fun_mk (st := s_Lsizes) l11 c11 k11
  have F12 := fun_mk (st := s_Ltwo_right) l12 c12 k12
  have F13 := fun_mk (st := s_law) l13 c13 k13
  have B0 := F0.binds (ps := ["_law_script", "_law_k"]) fun _ _ _ _ _ _ us hl => match us, hl with | [_, _], _ => rfl
  have B1 := F1.binds (ps := ["self", "other"]) fun _ _ _ _ _ _ us hl => match us, hl with | [_, _], _ => rfl
  have B2 := F2.binds (ps := ["thing", "least", "most"]) fun _ _ _ _ _ _ us hl => match us, hl with | [_, _, _], _ => rfl
  have B4 := F4.binds (ps := ["self"]) fun _ _ _ _ _ _ us hl => match us, hl with | [_], _ => rfl
  have B5 := F5.binds (ps := ["self"]) fun _ _ _ _ _ _ us hl => match us, hl with | [_], _ => rfl
  have B6 := F6.binds (ps := ["self"]) fun _ _ _ _ _ _ us hl => match us, hl with | [_], _ => rfl
  have B7 := F7.binds (ps := ["self"]) fun _ _ _ _ _ _ us hl => match us, hl with | [_], _ => rfl
  have B8 := F8.binds (ps := ["_law_heads", "_law_more"]) fun _ _ _ _ _ _ us hl => match us, hl with | [_, _], _ => rfl
  have B9 := F9.binds (ps := ["_law_cell_here"]) fun _ _ _ _ _ _ us hl => match us, hl with | [_], _ => rfl
  have B10 := F10.binds (ps := ["_law_pool_here", "_law_wide"]) fun _ _ _ _ _ _ us hl => match us, hl with | [_, _], _ => rfl
  have B11 := F11.binds (ps := ["_law_pool_here", "_law_upto"]) fun _ _ _ _ _ _ us hl => match us, hl with | [_, _], _ => rfl
  have B12 := F12.binds (ps := ["_law_pool_here"]) fun _ _ _ _ _ _ us hl => match us, hl with | [_], _ => rfl
  have B13 := F13.binds (ps := ["_law_script"]) fun _ _ _ _ _ _ us hl => match us, hl with | [_], _ => rfl
  have hall : HallK K C := ⟨⟨pg, hd, po, sa⟩, hca, hcn, hct, hcm, fun c t => by cases c <;> cases t <;> first | exact kit_ty (by decide +kernel) | assumption, ng, ns⟩
  letI : Tbs := ⟨([] : List (Addr × Addr × Str)).map (·.2)⟩
  have T : Tx K mg C (fun i => [f0, f1, f2, f3, f4, f5, f6, f7, f8, f9, f10, f11, f12, fa].getD i 0) (fun i => [PySem.W.fnOf "_law_cell" "_law_cell" (defArgs s_Lcell) (defBody s_Lcell) (defScope s_Lcell) .none kV0 dc0 pm0 an0 cd0 ct0, PySem.W.fnOf "__eq__" "Hall.__eq__" (defArgs s_Hall_eq) (defBody s_Hall_eq) (defScope s_Hall_eq) .none kV1 dc1 pm1 an1 cd1 ct1, PySem.W.fnOf "is_whole" "is_whole" (defArgs s_is_whole) (defBody s_is_whole) (defScope s_is_whole) .none kV2 dc2 pm2 an2 cd2 ct2, PySem.W.fnOf "__init__" "Hall.__init__" (defArgs s_Hall_init) (defBody s_Hall_init) (defScope s_Hall_init) .none (.ref kd3) dc3 pm3 an3 cd3 ct3, PySem.W.fnOf "__len__" "Hall.__len__" (defArgs s_Hall_len) (defBody s_Hall_len) (defScope s_Hall_len) .none kV4 dc4 pm4 an4 cd4 ct4, PySem.W.fnOf "__repr__" "Hall.__repr__" (defArgs s_Hall_repr) (defBody s_Hall_repr) (defScope s_Hall_repr) .none kV5 dc5 pm5 an5 cd5 ct5, PySem.W.fnOf "__str__" "Hall.__str__" (defArgs s_Hall_str) (defBody s_Hall_str) (defScope s_Hall_str) .none kV6 dc6 pm6 an6 cd6 ct6, PySem.W.fnOf "seats" "Hall.seats" (defArgs s_Hall_seats) (defBody s_Hall_seats) (defScope s_Hall_seats) .none kV7 dc7 pm7 an7 cd7 ct7, PySem.W.fnOf "_law_one_right" "_law_one_right" (defArgs s_Lone_right) (defBody s_Lone_right) (defScope s_Lone_right) .none kV8 dc8 pm8 an8 cd8 ct8, PySem.W.fnOf "_law_pool" "_law_pool" (defArgs s_Lpool) (defBody s_Lpool) (defScope s_Lpool) .none kV9 dc9 pm9 an9 cd9 ct9, PySem.W.fnOf "_law_take" "_law_take" (defArgs s_Ltake) (defBody s_Ltake) (defScope s_Ltake) .none kV10 dc10 pm10 an10 cd10 ct10, PySem.W.fnOf "_law_sizes" "_law_sizes" (defArgs s_Lsizes) (defBody s_Lsizes) (defScope s_Lsizes) .none kV11 dc11 pm11 an11 cd11 ct11, PySem.W.fnOf "_law_two_right" "_law_two_right" (defArgs s_Ltwo_right) (defBody s_Ltwo_right) (defScope s_Ltwo_right) .none kV12 dc12 pm12 an12 cd12 ct12, PySem.W.fnOf "law" "law" (defArgs s_law) (defBody s_law) (defScope s_law) .none kV13 dc13 pm13 an13 cd13 ct13].getD i (PySem.W.fnOf "_law_cell" "_law_cell" (defArgs s_Lcell) (defBody s_Lcell) (defScope s_Lcell) .none kV0 dc0 pm0 an0 cd0 ct0)) := by
    exact ⟨hall, ⟨a1, en, i1, hcm, mn0, mn1, mn2, mn3, mn4, mn5, mn6⟩, eb, ⟨F0, PySem.W.mg_of X G a0, k0, B0⟩, ⟨F1, ⟨a1, i1, k1⟩, B1⟩, ⟨F2, PySem.W.mg_of X G a2, k2, B2⟩, F3, ⟨mkC, a3, i3, kpC⟩, ⟨⟨_, _, _, _, _, _, _, _, _, _, rfl, l3, c3, .inl ⟨rfl, rfl⟩, .inr ⟨kd3, rfl, fun q hq => by simp at hq; subst hq; exact ⟨_, qd, ⟨_, rfl⟩⟩⟩⟩, k3⟩, ⟨F4, ⟨a4, i4, k4⟩, B4⟩, ⟨F5, ⟨a5, i5, k5⟩, B5⟩, ⟨F6, ⟨a6, i6, k6⟩, B6⟩, ⟨F7, ⟨a7, i7, k7⟩, B7⟩, ⟨F8, PySem.W.mg_of X G a8, k8, B8⟩, ⟨F9, PySem.W.mg_of X G a9, k9, B9⟩, ⟨F10, PySem.W.mg_of X G a10, k10, B10⟩, ⟨F11, PySem.W.mg_of X G a11, k11, B11⟩, ⟨F12, PySem.W.mg_of X G a12, k12, B12⟩, ⟨F13, PySem.W.mg_of X G a13, k13, B13⟩, PySem.W.mg_of X G gH, PySem.W.mg_none_of X G z_abs, PySem.W.mg_none_of X G z_all, PySem.W.mg_none_of X G z_any, PySem.W.mg_none_of X G z_bool, PySem.W.mg_none_of X G z_divmod, PySem.W.mg_none_of X G z_int, PySem.W.mg_none_of X G z_isinstance, PySem.W.mg_none_of X G z_len, PySem.W.mg_none_of X G z_list, PySem.W.mg_none_of X G z_max, PySem.W.mg_none_of X G z_min, PySem.W.mg_none_of X G z_range, PySem.W.mg_none_of X G z_repr, PySem.W.mg_none_of X G z_str, ⟨_, PySem.W.mg_of X G v_FAR, ⟨_, rfl⟩⟩, ⟨_, PySem.W.mg_of X G v_MOST, ⟨_, rfl⟩⟩, ⟨_, PySem.W.mg_of X G v_SPARE, ⟨_, rfl⟩⟩⟩
  exact ⟨[], C, PySem.W.fnOf "law" "law" (defArgs s_law) (defBody s_law) (defScope s_law) .none kV13 dc13 pm13 an13 cd13 ct13, fun p hp => by simp at hp, fun s v => .of_eq rfl, fun base _ _ TB => ok_law T⟩
theorem walk0 {q : Program} {loose : List Str} {XP : (Str → Option Value) → Heap → Prop} {YP : World → Heap → Prop} {d : DefRec} {K : Params → PySem.W.Frag} (hdf : d.params.defaults = []) (plain : ∀ (C : Addr) (ns : List Int), ns.length ≤ 63 → f_law C [.im (.scr ns)] (fun r _ => r = .d (.bl true)) (fun _ _ => False))
    (hY : ∀ (w : World) (h : Heap), YP w h → (K w.params).In h)
    (F : ∀ (w : World) (mg : Str → Option Value) (fa : Addr) (h : Heap), (K w.params).In h → h.Ns mainGlobals mg → mg d.name = some (.ref fa) →
      ∃ (cs : List (Addr × Addr × Str)) (C : Addr) (fd : FuncData), TabsBy q (K w.params) cs [] ∧ (∀ (s : Shared) (u : Value), BindsTo s fd ⟨[u], []⟩ [("_law_script", u)]) ∧ ∀ base : Heap, (K w.params).In base → base.Ns mainGlobals mg → (∀ p ∈ cs, LamX.TabB base mg p.1 p.2.1) → FnG PySem.Challenge.rw_waitseats_k01_halls_told.prog w (K w.params) mg base 5 fa fd ["_law_script"] (@spD ⟨cs.map (·.2)⟩ ⟨C, mg, K w.params, w, PySem.Challenge.rw_waitseats_k01_halls_told.prog⟩ 1 (f_law C))) :
    PySem.W.WalkO q loose XP YP PySem.Challenge.rw_waitseats_k01_halls_told.row.toRowW d [] (fun f vs => PySem.call f vs) :=
  walk_g (l := PySem.Challenge.rw_waitseats_k01_halls_told) (n := 63) (k := 5) f_law rfl (by decide) hdf (by decide) rfl hY F plain
end DLP

set_option Elab.async false
set_option linter.all false
set_option maxRecDepth 100000
set_option maxHeartbeats 4000000
namespace DLP
open PySem PySem.Spec PyProof.Rows L2 DL MW
theorem setI_ok {env : List DL.Slot} {i : Nat} {d : D} {v : DL.Slot} (h : env[i]? = some v) (hv : ∀ x o, v ≠ .io x o) : Runs (setI i d) env () (env.set i (.im d)) := fun Q E => by
  unfold setI
  rw [h]
  cases v with
  | io x o => exact (hv x o rfl).elim
  | _ => rfl
theorem range_nums (n : Int) : rangeL 0 n = (nums n).map .int := by
  unfold rangeL nums
  rw [List.map_map, Int.sub_zero]
  refine List.map_congr_left fun i _ => ?_
  show D.int (0 + _) = D.int _
  rw [Int.zero_add]
/-! ### Halls -/
theorem p_whole (C : Addr) (i a b : Int) (Q E) : f_is_whole C [.im (.int i), .im (.int a), .im (.int b)] Q E = Q (.d (.bl (decide (a ≤ i) && decide (i ≤ b)))) [.im (.int i), .im (.int a), .im (.int b)] := by
  simp only [↓f_is_whole, ↓m_is_whole, ↓bnd_ap, ↓ret_ap, ↓ask_ap, ↓fail_ap, ↓ite_ap, ↓dVar, ↓getO, ↓putO, ↓setI, ↓setO, ↓takeO, ↓frzV, getElem?_0, getElem?_s, List.set_cons_zero, List.set_cons_succ, ↓seqM, ↓seqK, ↓thenN, ↓ifM, ↓andB, ↓orB, ↓notB, ↓andV, ↓orV, ↓notV, ↓asB, ↓do2, ↓chM, ↓consM, ↓consD, ↓consO, ↓tupM, ↓lstM, ↓olstM, ↓frzM, ↓resD, ↓resO, ↓callN, ↓callA, ↓allD, ↓split1, ↓callD, ↓call1, ↓callK, ↓ioAt, ↓putS, ↓finA, ↓defM, ↓un1, ↓un2, ↓truD, ↓isiD, D.kind, CT.is, ↓ltD, ↓leD, ↓gtD, ↓geD, ↓addD, ↓subD, ↓mulD, ↓modD, ↓fdivD, ↓powD, ↓isNonD, ↓notNonD, ↓negD, ↓lenD, ↓absD, ↓DL.intD, ↓max2D, ↓min2D, ↓divD, ↓tupD, ↓hgM, ↓hsM, ↓hcallM, ↓oixM, ↓olist, ↓asL, ↓ixL, ↓olenM, ↓oappM, ↓osetM, ↓opopM, ↓oremM, ↓oinM, ↓oset, ↓asS, ↓oaddM, ↓osinM, ↓otupM, ↓tRgM, ↓lRgM, ↓asgM, ↓setTw, ↓setKs, ↓setTup, ↓setIs, ↓parM, ↓setVs, ↓setV, ↓vD, ↓vO, ↓oins, ↓asI, ↓fsetM, putFD, ↓hallM, hallOf, ↓mkM, ↓DL.forM, ↓itR1, ↓itR2, ↓itLst, ↓itTup, ↓enTup, ↓enLst, ↓partM, ↓slM, ↓asT, ↓tidxM, Option.map, List.map_cons, List.map_nil, List.cons_append, List.nil_append, List.length_cons, List.length_nil, List.replicate, Nat.reduceAdd, Nat.reduceSub, Nat.sub_self, Bool.not_true, Bool.not_false, ↓if_true, ↓if_false, ↓ite_true, ↓ite_false, true_and, and_true, Bool.true_eq_false, Bool.false_eq_true, reduceIte, pick_eq, at3_0, at3_1, at3_2, ix3_0, ix3_1, ix3_2, ↓eqM_ii, ↓eqM_ni, ↓eqM_in, ↓eqM_ss, ↓neM_ii, ↓neM_ss, backE, oldS, ↓loopK_nx, ↓loopK_rt, ↓forL_nil, ↓forL_cons, sl0, sl1, sl2, sl3, sl4, sl5, sl6, sl7, sl8, forall_const, sm0, sm1, sm2, sm3, sm4, sm5, sm6, sm7, sm8, wipeE, ↓compL_n, ↓compL_c, ↓compM_ap, List.filterMap_cons, List.filterMap_nil, ↓odixM, ↓odinM, ↓odic, ↓asDi, ↓DL.keyD, ↓un1O, ↓listO, ↓tryM, ↓sortD, ↓DL.max1D, ↓otupV, ↓backM, ↓dictO, ↓maxTD, ↓oidxM, ↓lenRg, ↓lenR]
  by_cases h1 : a ≤ i
  · simp only [decide_eq_true h1, ↓bnd_ap, ↓ret_ap, ↓ask_ap, ↓fail_ap, ↓ite_ap, ↓dVar, ↓getO, ↓putO, ↓setI, ↓setO, ↓takeO, ↓frzV, getElem?_0, getElem?_s, List.set_cons_zero, List.set_cons_succ, ↓seqM, ↓seqK, ↓thenN, ↓ifM, ↓andB, ↓orB, ↓notB, ↓andV, ↓orV, ↓notV, ↓asB, ↓do2, ↓chM, ↓consM, ↓consD, ↓consO, ↓tupM, ↓lstM, ↓olstM, ↓frzM, ↓resD, ↓resO, ↓callN, ↓callA, ↓allD, ↓split1, ↓callD, ↓call1, ↓callK, ↓ioAt, ↓putS, ↓finA, ↓defM, ↓un1, ↓un2, ↓truD, ↓isiD, D.kind, CT.is, ↓ltD, ↓leD, ↓gtD, ↓geD, ↓addD, ↓subD, ↓mulD, ↓modD, ↓fdivD, ↓powD, ↓isNonD, ↓notNonD, ↓negD, ↓lenD, ↓absD, ↓DL.intD, ↓max2D, ↓min2D, ↓divD, ↓tupD, ↓hgM, ↓hsM, ↓hcallM, ↓oixM, ↓olist, ↓asL, ↓ixL, ↓olenM, ↓oappM, ↓osetM, ↓opopM, ↓oremM, ↓oinM, ↓oset, ↓asS, ↓oaddM, ↓osinM, ↓otupM, ↓tRgM, ↓lRgM, ↓asgM, ↓setTw, ↓setKs, ↓setTup, ↓setIs, ↓parM, ↓setVs, ↓setV, ↓vD, ↓vO, ↓oins, ↓asI, ↓fsetM, putFD, ↓hallM, hallOf, ↓mkM, ↓DL.forM, ↓itR1, ↓itR2, ↓itLst, ↓itTup, ↓enTup, ↓enLst, ↓partM, ↓slM, ↓asT, ↓tidxM, Option.map, List.map_cons, List.map_nil, List.cons_append, List.nil_append, List.length_cons, List.length_nil, List.replicate, Nat.reduceAdd, Nat.reduceSub, Nat.sub_self, Bool.not_true, Bool.not_false, ↓if_true, ↓if_false, ↓ite_true, ↓ite_false, true_and, and_true, Bool.true_eq_false, Bool.false_eq_true, reduceIte, pick_eq, at3_0, at3_1, at3_2, ix3_0, ix3_1, ix3_2, ↓eqM_ii, ↓eqM_ni, ↓eqM_in, ↓eqM_ss, ↓neM_ii, ↓neM_ss, backE, oldS, ↓loopK_nx, ↓loopK_rt, ↓forL_nil, ↓forL_cons, sl0, sl1, sl2, sl3, sl4, sl5, sl6, sl7, sl8, forall_const, sm0, sm1, sm2, sm3, sm4, sm5, sm6, sm7, sm8, wipeE, ↓compL_n, ↓compL_c, ↓compM_ap, List.filterMap_cons, List.filterMap_nil, ↓odixM, ↓odinM, ↓odic, ↓asDi, ↓DL.keyD, ↓un1O, ↓listO, ↓tryM, ↓sortD, ↓DL.max1D, ↓otupV, ↓backM, ↓dictO, ↓maxTD, ↓oidxM, ↓lenRg, ↓lenR, Bool.true_and]
  · simp only [decide_eq_false h1, ↓bnd_ap, ↓ret_ap, ↓ask_ap, ↓fail_ap, ↓ite_ap, ↓dVar, ↓getO, ↓putO, ↓setI, ↓setO, ↓takeO, ↓frzV, getElem?_0, getElem?_s, List.set_cons_zero, List.set_cons_succ, ↓seqM, ↓seqK, ↓thenN, ↓ifM, ↓andB, ↓orB, ↓notB, ↓andV, ↓orV, ↓notV, ↓asB, ↓do2, ↓chM, ↓consM, ↓consD, ↓consO, ↓tupM, ↓lstM, ↓olstM, ↓frzM, ↓resD, ↓resO, ↓callN, ↓callA, ↓allD, ↓split1, ↓callD, ↓call1, ↓callK, ↓ioAt, ↓putS, ↓finA, ↓defM, ↓un1, ↓un2, ↓truD, ↓isiD, D.kind, CT.is, ↓ltD, ↓leD, ↓gtD, ↓geD, ↓addD, ↓subD, ↓mulD, ↓modD, ↓fdivD, ↓powD, ↓isNonD, ↓notNonD, ↓negD, ↓lenD, ↓absD, ↓DL.intD, ↓max2D, ↓min2D, ↓divD, ↓tupD, ↓hgM, ↓hsM, ↓hcallM, ↓oixM, ↓olist, ↓asL, ↓ixL, ↓olenM, ↓oappM, ↓osetM, ↓opopM, ↓oremM, ↓oinM, ↓oset, ↓asS, ↓oaddM, ↓osinM, ↓otupM, ↓tRgM, ↓lRgM, ↓asgM, ↓setTw, ↓setKs, ↓setTup, ↓setIs, ↓parM, ↓setVs, ↓setV, ↓vD, ↓vO, ↓oins, ↓asI, ↓fsetM, putFD, ↓hallM, hallOf, ↓mkM, ↓DL.forM, ↓itR1, ↓itR2, ↓itLst, ↓itTup, ↓enTup, ↓enLst, ↓partM, ↓slM, ↓asT, ↓tidxM, Option.map, List.map_cons, List.map_nil, List.cons_append, List.nil_append, List.length_cons, List.length_nil, List.replicate, Nat.reduceAdd, Nat.reduceSub, Nat.sub_self, Bool.not_true, Bool.not_false, ↓if_true, ↓if_false, ↓ite_true, ↓ite_false, true_and, and_true, Bool.true_eq_false, Bool.false_eq_true, reduceIte, pick_eq, at3_0, at3_1, at3_2, ix3_0, ix3_1, ix3_2, ↓eqM_ii, ↓eqM_ni, ↓eqM_in, ↓eqM_ss, ↓neM_ii, ↓neM_ss, backE, oldS, ↓loopK_nx, ↓loopK_rt, ↓forL_nil, ↓forL_cons, sl0, sl1, sl2, sl3, sl4, sl5, sl6, sl7, sl8, forall_const, sm0, sm1, sm2, sm3, sm4, sm5, sm6, sm7, sm8, wipeE, ↓compL_n, ↓compL_c, ↓compM_ap, List.filterMap_cons, List.filterMap_nil, ↓odixM, ↓odinM, ↓odic, ↓asDi, ↓DL.keyD, ↓un1O, ↓listO, ↓tryM, ↓sortD, ↓DL.max1D, ↓otupV, ↓backM, ↓dictO, ↓maxTD, ↓oidxM, ↓lenRg, ↓lenR, Bool.false_and]
theorem gs_ne : ¬ (("guests" : Str) = "spare") := by decide +kernel
theorem p_init (C : Addr) (x : Addr) (g s : Int) (hg : 1 ≤ g ∧ g ≤ 24) (hs : 0 ≤ s ∧ s ≤ 6) (Q E) : f_Hall_init C [.io x (.ins C []), .im (.int g), .im (.int s)] Q E = Q (.d .non) [.io x (.ins C [("guests", .int g), ("spare", .int s)]), .im (.int g), .im (.int s)] := by
  have e1 : (decide ((1:Int) ≤ g) && decide (g ≤ 24)) = true := by simp [hg]
  have e2 : (decide ((0:Int) ≤ s) && decide (s ≤ 6)) = true := by simp [hs]
  have z1 : (0 : Nat) < 1000 := by decide
  have z2 : (1 : Nat) < 1000 := by decide
  simp only [↓f_Hall_init, ↓m_Hall_init, ↓p_whole, e1, e2, gs_ne, z1, z2, ↓bnd_ap, ↓ret_ap, ↓ask_ap, ↓fail_ap, ↓ite_ap, ↓dVar, ↓getO, ↓putO, ↓setI, ↓setO, ↓takeO, ↓frzV, getElem?_0, getElem?_s, List.set_cons_zero, List.set_cons_succ, ↓seqM, ↓seqK, ↓thenN, ↓ifM, ↓andB, ↓orB, ↓notB, ↓andV, ↓orV, ↓notV, ↓asB, ↓do2, ↓chM, ↓consM, ↓consD, ↓consO, ↓tupM, ↓lstM, ↓olstM, ↓frzM, ↓resD, ↓resO, ↓callN, ↓callA, ↓allD, ↓split1, ↓callD, ↓call1, ↓callK, ↓ioAt, ↓putS, ↓finA, ↓defM, ↓un1, ↓un2, ↓truD, ↓isiD, D.kind, CT.is, ↓ltD, ↓leD, ↓gtD, ↓geD, ↓addD, ↓subD, ↓mulD, ↓modD, ↓fdivD, ↓powD, ↓isNonD, ↓notNonD, ↓negD, ↓lenD, ↓absD, ↓DL.intD, ↓max2D, ↓min2D, ↓divD, ↓tupD, ↓hgM, ↓hsM, ↓hcallM, ↓oixM, ↓olist, ↓asL, ↓ixL, ↓olenM, ↓oappM, ↓osetM, ↓opopM, ↓oremM, ↓oinM, ↓oset, ↓asS, ↓oaddM, ↓osinM, ↓otupM, ↓tRgM, ↓lRgM, ↓asgM, ↓setTw, ↓setKs, ↓setTup, ↓setIs, ↓parM, ↓setVs, ↓setV, ↓vD, ↓vO, ↓oins, ↓asI, ↓fsetM, putFD, ↓hallM, hallOf, ↓mkM, ↓DL.forM, ↓itR1, ↓itR2, ↓itLst, ↓itTup, ↓enTup, ↓enLst, ↓partM, ↓slM, ↓asT, ↓tidxM, Option.map, List.map_cons, List.map_nil, List.cons_append, List.nil_append, List.length_cons, List.length_nil, List.replicate, Nat.reduceAdd, Nat.reduceSub, Nat.sub_self, Bool.not_true, Bool.not_false, ↓if_true, ↓if_false, ↓ite_true, ↓ite_false, true_and, and_true, Bool.true_eq_false, Bool.false_eq_true, reduceIte, pick_eq, at3_0, at3_1, at3_2, ix3_0, ix3_1, ix3_2, ↓eqM_ii, ↓eqM_ni, ↓eqM_in, ↓eqM_ss, ↓neM_ii, ↓neM_ss, backE, oldS, ↓loopK_nx, ↓loopK_rt, ↓forL_nil, ↓forL_cons, sl0, sl1, sl2, sl3, sl4, sl5, sl6, sl7, sl8, forall_const, sm0, sm1, sm2, sm3, sm4, sm5, sm6, sm7, sm8, wipeE, ↓compL_n, ↓compL_c, ↓compM_ap, List.filterMap_cons, List.filterMap_nil, ↓odixM, ↓odinM, ↓odic, ↓asDi, ↓DL.keyD, ↓un1O, ↓listO, ↓tryM, ↓sortD, ↓DL.max1D, ↓otupV, ↓backM, ↓dictO, ↓maxTD, ↓oidxM, ↓lenRg, ↓lenR]
theorem p_seats (C : Addr) (g s : Int) (Q E) : f_Hall_seats C [.im (.hall g s)] Q E = Q (.d (.int (g + s))) [.im (.hall g s)] := by
  simp only [↓f_Hall_seats, ↓m_Hall_seats, ↓bnd_ap, ↓ret_ap, ↓ask_ap, ↓fail_ap, ↓ite_ap, ↓dVar, ↓getO, ↓putO, ↓setI, ↓setO, ↓takeO, ↓frzV, getElem?_0, getElem?_s, List.set_cons_zero, List.set_cons_succ, ↓seqM, ↓seqK, ↓thenN, ↓ifM, ↓andB, ↓orB, ↓notB, ↓andV, ↓orV, ↓notV, ↓asB, ↓do2, ↓chM, ↓consM, ↓consD, ↓consO, ↓tupM, ↓lstM, ↓olstM, ↓frzM, ↓resD, ↓resO, ↓callN, ↓callA, ↓allD, ↓split1, ↓callD, ↓call1, ↓callK, ↓ioAt, ↓putS, ↓finA, ↓defM, ↓un1, ↓un2, ↓truD, ↓isiD, D.kind, CT.is, ↓ltD, ↓leD, ↓gtD, ↓geD, ↓addD, ↓subD, ↓mulD, ↓modD, ↓fdivD, ↓powD, ↓isNonD, ↓notNonD, ↓negD, ↓lenD, ↓absD, ↓DL.intD, ↓max2D, ↓min2D, ↓divD, ↓tupD, ↓hgM, ↓hsM, ↓hcallM, ↓oixM, ↓olist, ↓asL, ↓ixL, ↓olenM, ↓oappM, ↓osetM, ↓opopM, ↓oremM, ↓oinM, ↓oset, ↓asS, ↓oaddM, ↓osinM, ↓otupM, ↓tRgM, ↓lRgM, ↓asgM, ↓setTw, ↓setKs, ↓setTup, ↓setIs, ↓parM, ↓setVs, ↓setV, ↓vD, ↓vO, ↓oins, ↓asI, ↓fsetM, putFD, ↓hallM, hallOf, ↓mkM, ↓DL.forM, ↓itR1, ↓itR2, ↓itLst, ↓itTup, ↓enTup, ↓enLst, ↓partM, ↓slM, ↓asT, ↓tidxM, Option.map, List.map_cons, List.map_nil, List.cons_append, List.nil_append, List.length_cons, List.length_nil, List.replicate, Nat.reduceAdd, Nat.reduceSub, Nat.sub_self, Bool.not_true, Bool.not_false, ↓if_true, ↓if_false, ↓ite_true, ↓ite_false, true_and, and_true, Bool.true_eq_false, Bool.false_eq_true, reduceIte, pick_eq, at3_0, at3_1, at3_2, ix3_0, ix3_1, ix3_2, ↓eqM_ii, ↓eqM_ni, ↓eqM_in, ↓eqM_ss, ↓neM_ii, ↓neM_ss, backE, oldS, ↓loopK_nx, ↓loopK_rt, ↓forL_nil, ↓forL_cons, sl0, sl1, sl2, sl3, sl4, sl5, sl6, sl7, sl8, forall_const, sm0, sm1, sm2, sm3, sm4, sm5, sm6, sm7, sm8, wipeE, ↓compL_n, ↓compL_c, ↓compM_ap, List.filterMap_cons, List.filterMap_nil, ↓odixM, ↓odinM, ↓odic, ↓asDi, ↓DL.keyD, ↓un1O, ↓listO, ↓tryM, ↓sortD, ↓DL.max1D, ↓otupV, ↓backM, ↓dictO, ↓maxTD, ↓oidxM, ↓lenRg, ↓lenR]
/-! ### standings -/
def oD : Option Int → D
  | none => .non
  | some i => .int i
def stD (st : Sd) : D := .tup (st.map oD)
def takeS (a b c : Int) : Int := (a * (a % 45013 + 32017) + 90023 * (c + 1)) % 2147483423
def takeR (a b c wide : Int) : Int := if 0 < b then b % wide else takeS a b c / 64 % wide
def takeB (b wide : Int) : Int := if 0 < b then b / wide else b
theorem p_take (C : Addr) (x : Addr) (a b c wide : Int) (h1 : 0 < wide) (h2 : wide < 1073741824) (Q E) : f_Ltake C [.io x (.lst [.int a, .int b, .int c]), .im (.int wide)] Q E = Q (.d (.int (takeR a b c wide))) [.io x (.lst [.int (takeS a b c), .int (takeB b wide), .int (c + 1)]), .im (.int wide)] := by
  have c1 : CMul a (a % 45013 + 32017) := .inr ⟨by omega, by omega⟩
  have c2 : CMul 90023 (c + 1) := .inl ⟨by decide, by decide⟩
  have d1 : (0 : Int) < 45013 := by decide
  have d2 : (0 : Int) < 2147483423 := by decide
  have d3 : (0 : Int) < 64 := by decide
  have d4 : (64 : Int) < 1073741824 := by decide
  by_cases hb : 0 < b
  · simp only [↓f_Ltake, ↓m_Ltake, takeR, takeB, takeS, decide_eq_true hb, if_pos hb, c1, c2, d1, d2, h1, h2, ↓bnd_ap, ↓ret_ap, ↓ask_ap, ↓fail_ap, ↓ite_ap, ↓dVar, ↓getO, ↓putO, ↓setI, ↓setO, ↓takeO, ↓frzV, getElem?_0, getElem?_s, List.set_cons_zero, List.set_cons_succ, ↓seqM, ↓seqK, ↓thenN, ↓ifM, ↓andB, ↓orB, ↓notB, ↓andV, ↓orV, ↓notV, ↓asB, ↓do2, ↓chM, ↓consM, ↓consD, ↓consO, ↓tupM, ↓lstM, ↓olstM, ↓frzM, ↓resD, ↓resO, ↓callN, ↓callA, ↓allD, ↓split1, ↓callD, ↓call1, ↓callK, ↓ioAt, ↓putS, ↓finA, ↓defM, ↓un1, ↓un2, ↓truD, ↓isiD, D.kind, CT.is, ↓ltD, ↓leD, ↓gtD, ↓geD, ↓addD, ↓subD, ↓mulD, ↓modD, ↓fdivD, ↓powD, ↓isNonD, ↓notNonD, ↓negD, ↓lenD, ↓absD, ↓DL.intD, ↓max2D, ↓min2D, ↓divD, ↓tupD, ↓hgM, ↓hsM, ↓hcallM, ↓oixM, ↓olist, ↓asL, ↓ixL, ↓olenM, ↓oappM, ↓osetM, ↓opopM, ↓oremM, ↓oinM, ↓oset, ↓asS, ↓oaddM, ↓osinM, ↓otupM, ↓tRgM, ↓lRgM, ↓asgM, ↓setTw, ↓setKs, ↓setTup, ↓setIs, ↓parM, ↓setVs, ↓setV, ↓vD, ↓vO, ↓oins, ↓asI, ↓fsetM, putFD, ↓hallM, hallOf, ↓mkM, ↓DL.forM, ↓itR1, ↓itR2, ↓itLst, ↓itTup, ↓enTup, ↓enLst, ↓partM, ↓slM, ↓asT, ↓tidxM, Option.map, List.map_cons, List.map_nil, List.cons_append, List.nil_append, List.length_cons, List.length_nil, List.replicate, Nat.reduceAdd, Nat.reduceSub, Nat.sub_self, Bool.not_true, Bool.not_false, ↓if_true, ↓if_false, ↓ite_true, ↓ite_false, true_and, and_true, Bool.true_eq_false, Bool.false_eq_true, reduceIte, pick_eq, at3_0, at3_1, at3_2, ix3_0, ix3_1, ix3_2, ↓eqM_ii, ↓eqM_ni, ↓eqM_in, ↓eqM_ss, ↓neM_ii, ↓neM_ss, backE, oldS, ↓loopK_nx, ↓loopK_rt, ↓forL_nil, ↓forL_cons, sl0, sl1, sl2, sl3, sl4, sl5, sl6, sl7, sl8, forall_const, sm0, sm1, sm2, sm3, sm4, sm5, sm6, sm7, sm8, wipeE, ↓compL_n, ↓compL_c, ↓compM_ap, List.filterMap_cons, List.filterMap_nil, ↓odixM, ↓odinM, ↓odic, ↓asDi, ↓DL.keyD, ↓un1O, ↓listO, ↓tryM, ↓sortD, ↓DL.max1D, ↓otupV, ↓backM, ↓dictO, ↓maxTD, ↓oidxM, ↓lenRg, ↓lenR]
  · simp only [↓f_Ltake, ↓m_Ltake, takeR, takeB, takeS, decide_eq_false hb, if_neg hb, c1, c2, d1, d2, d3, d4, h1, h2, ↓bnd_ap, ↓ret_ap, ↓ask_ap, ↓fail_ap, ↓ite_ap, ↓dVar, ↓getO, ↓putO, ↓setI, ↓setO, ↓takeO, ↓frzV, getElem?_0, getElem?_s, List.set_cons_zero, List.set_cons_succ, ↓seqM, ↓seqK, ↓thenN, ↓ifM, ↓andB, ↓orB, ↓notB, ↓andV, ↓orV, ↓notV, ↓asB, ↓do2, ↓chM, ↓consM, ↓consD, ↓consO, ↓tupM, ↓lstM, ↓olstM, ↓frzM, ↓resD, ↓resO, ↓callN, ↓callA, ↓allD, ↓split1, ↓callD, ↓call1, ↓callK, ↓ioAt, ↓putS, ↓finA, ↓defM, ↓un1, ↓un2, ↓truD, ↓isiD, D.kind, CT.is, ↓ltD, ↓leD, ↓gtD, ↓geD, ↓addD, ↓subD, ↓mulD, ↓modD, ↓fdivD, ↓powD, ↓isNonD, ↓notNonD, ↓negD, ↓lenD, ↓absD, ↓DL.intD, ↓max2D, ↓min2D, ↓divD, ↓tupD, ↓hgM, ↓hsM, ↓hcallM, ↓oixM, ↓olist, ↓asL, ↓ixL, ↓olenM, ↓oappM, ↓osetM, ↓opopM, ↓oremM, ↓oinM, ↓oset, ↓asS, ↓oaddM, ↓osinM, ↓otupM, ↓tRgM, ↓lRgM, ↓asgM, ↓setTw, ↓setKs, ↓setTup, ↓setIs, ↓parM, ↓setVs, ↓setV, ↓vD, ↓vO, ↓oins, ↓asI, ↓fsetM, putFD, ↓hallM, hallOf, ↓mkM, ↓DL.forM, ↓itR1, ↓itR2, ↓itLst, ↓itTup, ↓enTup, ↓enLst, ↓partM, ↓slM, ↓asT, ↓tidxM, Option.map, List.map_cons, List.map_nil, List.cons_append, List.nil_append, List.length_cons, List.length_nil, List.replicate, Nat.reduceAdd, Nat.reduceSub, Nat.sub_self, Bool.not_true, Bool.not_false, ↓if_true, ↓if_false, ↓ite_true, ↓ite_false, true_and, and_true, Bool.true_eq_false, Bool.false_eq_true, reduceIte, pick_eq, at3_0, at3_1, at3_2, ix3_0, ix3_1, ix3_2, ↓eqM_ii, ↓eqM_ni, ↓eqM_in, ↓eqM_ss, ↓neM_ii, ↓neM_ss, backE, oldS, ↓loopK_nx, ↓loopK_rt, ↓forL_nil, ↓forL_cons, sl0, sl1, sl2, sl3, sl4, sl5, sl6, sl7, sl8, forall_const, sm0, sm1, sm2, sm3, sm4, sm5, sm6, sm7, sm8, wipeE, ↓compL_n, ↓compL_c, ↓compM_ap, List.filterMap_cons, List.filterMap_nil, ↓odixM, ↓odinM, ↓odic, ↓asDi, ↓DL.keyD, ↓un1O, ↓listO, ↓tryM, ↓sortD, ↓DL.max1D, ↓otupV, ↓backM, ↓dictO, ↓maxTD, ↓oidxM, ↓lenRg, ↓lenR]
/-! ### the law's draws -/
def nx1 (a c : Int) : Int := (a * 38011 + c) % 2147483423
theorem cell_loop (C : Addr) (ns : List Int) (k : Int) (Q E) (R : Prop) : ∀ (l : List Int) (a : Int) (v : DL.Slot), (∀ x o, v ≠ .io x o) → (∀ v, (∀ x o, v ≠ .io x o) → Q .nx [.im (.scr ns), .im (.int k), .im (.int (l.foldl nx1 a)), v] = R) →
    forL (setI 3) (b_Lcell_1 C) (l.map .int) [.im (.scr ns), .im (.int k), .im (.int a), v] Q E = R := by
  intro l
  induction l with
  | nil => intro a v h hQ; exact hQ v h
  | cons n l ih =>
    intro a v h hQ
    have st : ∀ Q E, setI 3 (.int n) [.im (.scr ns), .im (.int k), .im (.int a), v] Q E = Q () [.im (.scr ns), .im (.int k), .im (.int a), .im (.int n)] := fun Q E => by
      cases v with
      | io x o => exact (h x o rfl).elim
      | _ => rfl
    have tn : ∀ Q E, b_Lcell_1 C [.im (.scr ns), .im (.int k), .im (.int a), .im (.int n)] Q E = Q .nx [.im (.scr ns), .im (.int k), .im (.int (nx1 a n)), .im (.int n)] := fun Q E => by
      have c1 : CMul a 38011 := .inr ⟨by decide, by decide⟩
      have d2 : (0 : Int) < 2147483423 := by decide
      simp only [↓b_Lcell_1, nx1, c1, d2, ↓bnd_ap, ↓ret_ap, ↓ask_ap, ↓fail_ap, ↓ite_ap, ↓dVar, ↓getO, ↓putO, ↓setI, ↓setO, ↓takeO, ↓frzV, getElem?_0, getElem?_s, List.set_cons_zero, List.set_cons_succ, ↓seqM, ↓seqK, ↓thenN, ↓ifM, ↓andB, ↓orB, ↓notB, ↓andV, ↓orV, ↓notV, ↓asB, ↓do2, ↓chM, ↓consM, ↓consD, ↓consO, ↓tupM, ↓lstM, ↓olstM, ↓frzM, ↓resD, ↓resO, ↓callN, ↓callA, ↓allD, ↓split1, ↓callD, ↓call1, ↓callK, ↓ioAt, ↓putS, ↓finA, ↓defM, ↓un1, ↓un2, ↓truD, ↓isiD, D.kind, CT.is, ↓ltD, ↓leD, ↓gtD, ↓geD, ↓addD, ↓subD, ↓mulD, ↓modD, ↓fdivD, ↓powD, ↓isNonD, ↓notNonD, ↓negD, ↓lenD, ↓absD, ↓DL.intD, ↓max2D, ↓min2D, ↓divD, ↓tupD, ↓hgM, ↓hsM, ↓hcallM, ↓oixM, ↓olist, ↓asL, ↓ixL, ↓olenM, ↓oappM, ↓osetM, ↓opopM, ↓oremM, ↓oinM, ↓oset, ↓asS, ↓oaddM, ↓osinM, ↓otupM, ↓tRgM, ↓lRgM, ↓asgM, ↓setTw, ↓setKs, ↓setTup, ↓setIs, ↓parM, ↓setVs, ↓setV, ↓vD, ↓vO, ↓oins, ↓asI, ↓fsetM, putFD, ↓hallM, hallOf, ↓mkM, ↓DL.forM, ↓itR1, ↓itR2, ↓itLst, ↓itTup, ↓enTup, ↓enLst, ↓partM, ↓slM, ↓asT, ↓tidxM, Option.map, List.map_cons, List.map_nil, List.cons_append, List.nil_append, List.length_cons, List.length_nil, List.replicate, Nat.reduceAdd, Nat.reduceSub, Nat.sub_self, Bool.not_true, Bool.not_false, ↓if_true, ↓if_false, ↓ite_true, ↓ite_false, true_and, and_true, Bool.true_eq_false, Bool.false_eq_true, reduceIte, pick_eq, at3_0, at3_1, at3_2, ix3_0, ix3_1, ix3_2, ↓eqM_ii, ↓eqM_ni, ↓eqM_in, ↓eqM_ss, ↓neM_ii, ↓neM_ss, backE, oldS, ↓loopK_nx, ↓loopK_rt, ↓forL_nil, ↓forL_cons, sl0, sl1, sl2, sl3, sl4, sl5, sl6, sl7, sl8, forall_const, sm0, sm1, sm2, sm3, sm4, sm5, sm6, sm7, sm8, wipeE, ↓compL_n, ↓compL_c, ↓compM_ap, List.filterMap_cons, List.filterMap_nil, ↓odixM, ↓odinM, ↓odic, ↓asDi, ↓DL.keyD, ↓un1O, ↓listO, ↓tryM, ↓sortD, ↓DL.max1D, ↓otupV, ↓backM, ↓dictO, ↓maxTD, ↓oidxM, ↓lenRg, ↓lenR]
    rw [List.map_cons, forL_cons, st, tn, loopK_nx]
    exact ih (nx1 a n) _ nofun hQ
def cellV (ns : List Int) (k : Int) : Int := if k < ns.length then (atI ns k).getD 0 else (cutL ns none (some 3)).foldl nx1 (70003 * (k * k + 7 * k + 5) % 2147483423)
theorem p_cell (C : Addr) (ns : List Int) (k : Int) (hk : 0 ≤ k ∧ k < 1000) (Q E) : f_Lcell C [.im (.scr ns), .im (.int k)] Q E = Q (.d (.int (cellV ns k))) [.im (.scr ns), .im (.int k)] := by
  by_cases h : k < ns.length
  · have e : ∃ d, atI ns k = some d := by
      have e1 : ixN ns.length k = some k.toNat := by unfold ixN; rw [if_pos hk.1, if_pos h]
      have l : k.toNat < ns.length := by omega
      exact ⟨ns[k.toNat], by unfold atI; rw [e1]; exact List.getElem?_eq_getElem l⟩
    obtain ⟨d, e⟩ := e
    simp only [↓f_Lcell, ↓m_Lcell, decide_eq_true h, cellV, if_pos h, ixM, e, Option.getD_some, ↓bnd_ap, ↓ret_ap, ↓ask_ap, ↓fail_ap, ↓ite_ap, ↓dVar, ↓getO, ↓putO, ↓setI, ↓setO, ↓takeO, ↓frzV, getElem?_0, getElem?_s, List.set_cons_zero, List.set_cons_succ, ↓seqM, ↓seqK, ↓thenN, ↓ifM, ↓andB, ↓orB, ↓notB, ↓andV, ↓orV, ↓notV, ↓asB, ↓do2, ↓chM, ↓consM, ↓consD, ↓consO, ↓tupM, ↓lstM, ↓olstM, ↓frzM, ↓resD, ↓resO, ↓callN, ↓callA, ↓allD, ↓split1, ↓callD, ↓call1, ↓callK, ↓ioAt, ↓putS, ↓finA, ↓defM, ↓un1, ↓un2, ↓truD, ↓isiD, D.kind, CT.is, ↓ltD, ↓leD, ↓gtD, ↓geD, ↓addD, ↓subD, ↓mulD, ↓modD, ↓fdivD, ↓powD, ↓isNonD, ↓notNonD, ↓negD, ↓lenD, ↓absD, ↓DL.intD, ↓max2D, ↓min2D, ↓divD, ↓tupD, ↓hgM, ↓hsM, ↓hcallM, ↓oixM, ↓olist, ↓asL, ↓ixL, ↓olenM, ↓oappM, ↓osetM, ↓opopM, ↓oremM, ↓oinM, ↓oset, ↓asS, ↓oaddM, ↓osinM, ↓otupM, ↓tRgM, ↓lRgM, ↓asgM, ↓setTw, ↓setKs, ↓setTup, ↓setIs, ↓parM, ↓setVs, ↓setV, ↓vD, ↓vO, ↓oins, ↓asI, ↓fsetM, putFD, ↓hallM, hallOf, ↓mkM, ↓DL.forM, ↓itR1, ↓itR2, ↓itLst, ↓itTup, ↓enTup, ↓enLst, ↓partM, ↓slM, ↓asT, ↓tidxM, Option.map, List.map_cons, List.map_nil, List.cons_append, List.nil_append, List.length_cons, List.length_nil, List.replicate, Nat.reduceAdd, Nat.reduceSub, Nat.sub_self, Bool.not_true, Bool.not_false, ↓if_true, ↓if_false, ↓ite_true, ↓ite_false, true_and, and_true, Bool.true_eq_false, Bool.false_eq_true, reduceIte, pick_eq, at3_0, at3_1, at3_2, ix3_0, ix3_1, ix3_2, ↓eqM_ii, ↓eqM_ni, ↓eqM_in, ↓eqM_ss, ↓neM_ii, ↓neM_ss, backE, oldS, ↓loopK_nx, ↓loopK_rt, ↓forL_nil, ↓forL_cons, sl0, sl1, sl2, sl3, sl4, sl5, sl6, sl7, sl8, forall_const, sm0, sm1, sm2, sm3, sm4, sm5, sm6, sm7, sm8, wipeE, ↓compL_n, ↓compL_c, ↓compM_ap, List.filterMap_cons, List.filterMap_nil, ↓odixM, ↓odinM, ↓odic, ↓asDi, ↓DL.keyD, ↓un1O, ↓listO, ↓tryM, ↓sortD, ↓DL.max1D, ↓otupV, ↓backM, ↓dictO, ↓maxTD, ↓oidxM, ↓lenRg, ↓lenR]
  · have c1 : CMul k k := .inl ⟨by omega, by omega⟩
    have c2 : CMul 7 k := .inl ⟨by decide, by decide⟩
    have c3 : CMul 70003 (k * k + 7 * k + 5) := .inl ⟨by decide, by decide⟩
    have d2 : (0 : Int) < 2147483423 := by decide
    simp only [↓f_Lcell, ↓m_Lcell, decide_eq_false h, cellV, if_neg h, c1, c2, c3, d2, ↓bnd_ap, ↓ret_ap, ↓ask_ap, ↓fail_ap, ↓ite_ap, ↓dVar, ↓getO, ↓putO, ↓setI, ↓setO, ↓takeO, ↓frzV, getElem?_0, getElem?_s, List.set_cons_zero, List.set_cons_succ, ↓seqM, ↓seqK, ↓thenN, ↓ifM, ↓andB, ↓orB, ↓notB, ↓andV, ↓orV, ↓notV, ↓asB, ↓do2, ↓chM, ↓consM, ↓consD, ↓consO, ↓tupM, ↓lstM, ↓olstM, ↓frzM, ↓resD, ↓resO, ↓callN, ↓callA, ↓allD, ↓split1, ↓callD, ↓call1, ↓callK, ↓ioAt, ↓putS, ↓finA, ↓defM, ↓un1, ↓un2, ↓truD, ↓isiD, D.kind, CT.is, ↓ltD, ↓leD, ↓gtD, ↓geD, ↓addD, ↓subD, ↓mulD, ↓modD, ↓fdivD, ↓powD, ↓isNonD, ↓notNonD, ↓negD, ↓lenD, ↓absD, ↓DL.intD, ↓max2D, ↓min2D, ↓divD, ↓tupD, ↓hgM, ↓hsM, ↓hcallM, ↓oixM, ↓olist, ↓asL, ↓ixL, ↓olenM, ↓oappM, ↓osetM, ↓opopM, ↓oremM, ↓oinM, ↓oset, ↓asS, ↓oaddM, ↓osinM, ↓otupM, ↓tRgM, ↓lRgM, ↓asgM, ↓setTw, ↓setKs, ↓setTup, ↓setIs, ↓parM, ↓setVs, ↓setV, ↓vD, ↓vO, ↓oins, ↓asI, ↓fsetM, putFD, ↓hallM, hallOf, ↓mkM, ↓DL.forM, ↓itR1, ↓itR2, ↓itLst, ↓itTup, ↓enTup, ↓enLst, ↓partM, ↓slM, ↓asT, ↓tidxM, Option.map, List.map_cons, List.map_nil, List.cons_append, List.nil_append, List.length_cons, List.length_nil, List.replicate, Nat.reduceAdd, Nat.reduceSub, Nat.sub_self, Bool.not_true, Bool.not_false, ↓if_true, ↓if_false, ↓ite_true, ↓ite_false, true_and, and_true, Bool.true_eq_false, Bool.false_eq_true, reduceIte, pick_eq, at3_0, at3_1, at3_2, ix3_0, ix3_1, ix3_2, ↓eqM_ii, ↓eqM_ni, ↓eqM_in, ↓eqM_ss, ↓neM_ii, ↓neM_ss, backE, oldS, ↓loopK_nx, ↓loopK_rt, ↓forL_nil, ↓forL_cons, sl0, sl1, sl2, sl3, sl4, sl5, sl6, sl7, sl8, forall_const, sm0, sm1, sm2, sm3, sm4, sm5, sm6, sm7, sm8, wipeE, ↓compL_n, ↓compL_c, ↓compM_ap, List.filterMap_cons, List.filterMap_nil, ↓odixM, ↓odinM, ↓odic, ↓asDi, ↓DL.keyD, ↓un1O, ↓listO, ↓tryM, ↓sortD, ↓DL.max1D, ↓otupV, ↓backM, ↓dictO, ↓maxTD, ↓oidxM, ↓lenRg, ↓lenR]
    refine cell_loop C ns k _ _ _ (cutL ns none (some 3)) _ .no nofun fun v _ => ?_
    simp only [↓bnd_ap, ↓ret_ap, ↓ask_ap, ↓fail_ap, ↓ite_ap, ↓dVar, ↓getO, ↓putO, ↓setI, ↓setO, ↓takeO, ↓frzV, getElem?_0, getElem?_s, List.set_cons_zero, List.set_cons_succ, ↓seqM, ↓seqK, ↓thenN, ↓ifM, ↓andB, ↓orB, ↓notB, ↓andV, ↓orV, ↓notV, ↓asB, ↓do2, ↓chM, ↓consM, ↓consD, ↓consO, ↓tupM, ↓lstM, ↓olstM, ↓frzM, ↓resD, ↓resO, ↓callN, ↓callA, ↓allD, ↓split1, ↓callD, ↓call1, ↓callK, ↓ioAt, ↓putS, ↓finA, ↓defM, ↓un1, ↓un2, ↓truD, ↓isiD, D.kind, CT.is, ↓ltD, ↓leD, ↓gtD, ↓geD, ↓addD, ↓subD, ↓mulD, ↓modD, ↓fdivD, ↓powD, ↓isNonD, ↓notNonD, ↓negD, ↓lenD, ↓absD, ↓DL.intD, ↓max2D, ↓min2D, ↓divD, ↓tupD, ↓hgM, ↓hsM, ↓hcallM, ↓oixM, ↓olist, ↓asL, ↓ixL, ↓olenM, ↓oappM, ↓osetM, ↓opopM, ↓oremM, ↓oinM, ↓oset, ↓asS, ↓oaddM, ↓osinM, ↓otupM, ↓tRgM, ↓lRgM, ↓asgM, ↓setTw, ↓setKs, ↓setTup, ↓setIs, ↓parM, ↓setVs, ↓setV, ↓vD, ↓vO, ↓oins, ↓asI, ↓fsetM, putFD, ↓hallM, hallOf, ↓mkM, ↓DL.forM, ↓itR1, ↓itR2, ↓itLst, ↓itTup, ↓enTup, ↓enLst, ↓partM, ↓slM, ↓asT, ↓tidxM, Option.map, List.map_cons, List.map_nil, List.cons_append, List.nil_append, List.length_cons, List.length_nil, List.replicate, Nat.reduceAdd, Nat.reduceSub, Nat.sub_self, Bool.not_true, Bool.not_false, ↓if_true, ↓if_false, ↓ite_true, ↓ite_false, true_and, and_true, Bool.true_eq_false, Bool.false_eq_true, reduceIte, pick_eq, at3_0, at3_1, at3_2, ix3_0, ix3_1, ix3_2, ↓eqM_ii, ↓eqM_ni, ↓eqM_in, ↓eqM_ss, ↓neM_ii, ↓neM_ss, backE, oldS, ↓loopK_nx, ↓loopK_rt, ↓forL_nil, ↓forL_cons, sl0, sl1, sl2, sl3, sl4, sl5, sl6, sl7, sl8, forall_const, sm0, sm1, sm2, sm3, sm4, sm5, sm6, sm7, sm8, wipeE, ↓compL_n, ↓compL_c, ↓compM_ap, List.filterMap_cons, List.filterMap_nil, ↓odixM, ↓odinM, ↓odic, ↓asDi, ↓DL.keyD, ↓un1O, ↓listO, ↓tryM, ↓sortD, ↓DL.max1D, ↓otupV, ↓backM, ↓dictO, ↓maxTD, ↓oidxM, ↓lenRg, ↓lenR]
def poolB (c : Int) : Int := if c < 0 ∨ c ≥ 10 ^ 18 then (if c < 0 then -c else c) else 0
theorem p_pool (C : Addr) (c : Int) (Q E) : f_Lpool C [.im (.int c)] Q E = Q (.o (.lst [.int (c % 2147483423), .int (poolB c), .int 0])) [.im (.int c)] := by
  have d2 : (0 : Int) < 2147483423 := by decide
  have d3 : (0 : Int) ≤ 18 := by decide
  have d4 : (18 : Int) ≤ 1000000 := by decide
  have d5 : (10 : Int).natAbs < 2 ^ 64 := by decide
  have d6 : (18 : Int).toNat = 18 := rfl
  by_cases h1 : c < 0
  · have e : poolB c = -c := by unfold poolB; rw [if_pos (.inl h1), if_pos h1]
    simp only [↓f_Lpool, ↓m_Lpool, decide_eq_true h1, e, if_pos h1, d2, ↓bnd_ap, ↓ret_ap, ↓ask_ap, ↓fail_ap, ↓ite_ap, ↓dVar, ↓getO, ↓putO, ↓setI, ↓setO, ↓takeO, ↓frzV, getElem?_0, getElem?_s, List.set_cons_zero, List.set_cons_succ, ↓seqM, ↓seqK, ↓thenN, ↓ifM, ↓andB, ↓orB, ↓notB, ↓andV, ↓orV, ↓notV, ↓asB, ↓do2, ↓chM, ↓consM, ↓consD, ↓consO, ↓tupM, ↓lstM, ↓olstM, ↓frzM, ↓resD, ↓resO, ↓callN, ↓callA, ↓allD, ↓split1, ↓callD, ↓call1, ↓callK, ↓ioAt, ↓putS, ↓finA, ↓defM, ↓un1, ↓un2, ↓truD, ↓isiD, D.kind, CT.is, ↓ltD, ↓leD, ↓gtD, ↓geD, ↓addD, ↓subD, ↓mulD, ↓modD, ↓fdivD, ↓powD, ↓isNonD, ↓notNonD, ↓negD, ↓lenD, ↓absD, ↓DL.intD, ↓max2D, ↓min2D, ↓divD, ↓tupD, ↓hgM, ↓hsM, ↓hcallM, ↓oixM, ↓olist, ↓asL, ↓ixL, ↓olenM, ↓oappM, ↓osetM, ↓opopM, ↓oremM, ↓oinM, ↓oset, ↓asS, ↓oaddM, ↓osinM, ↓otupM, ↓tRgM, ↓lRgM, ↓asgM, ↓setTw, ↓setKs, ↓setTup, ↓setIs, ↓parM, ↓setVs, ↓setV, ↓vD, ↓vO, ↓oins, ↓asI, ↓fsetM, putFD, ↓hallM, hallOf, ↓mkM, ↓DL.forM, ↓itR1, ↓itR2, ↓itLst, ↓itTup, ↓enTup, ↓enLst, ↓partM, ↓slM, ↓asT, ↓tidxM, Option.map, List.map_cons, List.map_nil, List.cons_append, List.nil_append, List.length_cons, List.length_nil, List.replicate, Nat.reduceAdd, Nat.reduceSub, Nat.sub_self, Bool.not_true, Bool.not_false, ↓if_true, ↓if_false, ↓ite_true, ↓ite_false, true_and, and_true, Bool.true_eq_false, Bool.false_eq_true, reduceIte, pick_eq, at3_0, at3_1, at3_2, ix3_0, ix3_1, ix3_2, ↓eqM_ii, ↓eqM_ni, ↓eqM_in, ↓eqM_ss, ↓neM_ii, ↓neM_ss, backE, oldS, ↓loopK_nx, ↓loopK_rt, ↓forL_nil, ↓forL_cons, sl0, sl1, sl2, sl3, sl4, sl5, sl6, sl7, sl8, forall_const, sm0, sm1, sm2, sm3, sm4, sm5, sm6, sm7, sm8, wipeE, ↓compL_n, ↓compL_c, ↓compM_ap, List.filterMap_cons, List.filterMap_nil, ↓odixM, ↓odinM, ↓odic, ↓asDi, ↓DL.keyD, ↓un1O, ↓listO, ↓tryM, ↓sortD, ↓DL.max1D, ↓otupV, ↓backM, ↓dictO, ↓maxTD, ↓oidxM, ↓lenRg, ↓lenR]
  · by_cases h2 : (10 : Int) ^ 18 ≤ c
    · have e : poolB c = c := by unfold poolB; rw [if_pos (.inr h2), if_neg h1]
      simp only [↓f_Lpool, ↓m_Lpool, decide_eq_false h1, d3, d4, d5, d6, decide_eq_true h2, e, if_neg h1, d2, ↓bnd_ap, ↓ret_ap, ↓ask_ap, ↓fail_ap, ↓ite_ap, ↓dVar, ↓getO, ↓putO, ↓setI, ↓setO, ↓takeO, ↓frzV, getElem?_0, getElem?_s, List.set_cons_zero, List.set_cons_succ, ↓seqM, ↓seqK, ↓thenN, ↓ifM, ↓andB, ↓orB, ↓notB, ↓andV, ↓orV, ↓notV, ↓asB, ↓do2, ↓chM, ↓consM, ↓consD, ↓consO, ↓tupM, ↓lstM, ↓olstM, ↓frzM, ↓resD, ↓resO, ↓callN, ↓callA, ↓allD, ↓split1, ↓callD, ↓call1, ↓callK, ↓ioAt, ↓putS, ↓finA, ↓defM, ↓un1, ↓un2, ↓truD, ↓isiD, D.kind, CT.is, ↓ltD, ↓leD, ↓gtD, ↓geD, ↓addD, ↓subD, ↓mulD, ↓modD, ↓fdivD, ↓powD, ↓isNonD, ↓notNonD, ↓negD, ↓lenD, ↓absD, ↓DL.intD, ↓max2D, ↓min2D, ↓divD, ↓tupD, ↓hgM, ↓hsM, ↓hcallM, ↓oixM, ↓olist, ↓asL, ↓ixL, ↓olenM, ↓oappM, ↓osetM, ↓opopM, ↓oremM, ↓oinM, ↓oset, ↓asS, ↓oaddM, ↓osinM, ↓otupM, ↓tRgM, ↓lRgM, ↓asgM, ↓setTw, ↓setKs, ↓setTup, ↓setIs, ↓parM, ↓setVs, ↓setV, ↓vD, ↓vO, ↓oins, ↓asI, ↓fsetM, putFD, ↓hallM, hallOf, ↓mkM, ↓DL.forM, ↓itR1, ↓itR2, ↓itLst, ↓itTup, ↓enTup, ↓enLst, ↓partM, ↓slM, ↓asT, ↓tidxM, Option.map, List.map_cons, List.map_nil, List.cons_append, List.nil_append, List.length_cons, List.length_nil, List.replicate, Nat.reduceAdd, Nat.reduceSub, Nat.sub_self, Bool.not_true, Bool.not_false, ↓if_true, ↓if_false, ↓ite_true, ↓ite_false, true_and, and_true, Bool.true_eq_false, Bool.false_eq_true, reduceIte, pick_eq, at3_0, at3_1, at3_2, ix3_0, ix3_1, ix3_2, ↓eqM_ii, ↓eqM_ni, ↓eqM_in, ↓eqM_ss, ↓neM_ii, ↓neM_ss, backE, oldS, ↓loopK_nx, ↓loopK_rt, ↓forL_nil, ↓forL_cons, sl0, sl1, sl2, sl3, sl4, sl5, sl6, sl7, sl8, forall_const, sm0, sm1, sm2, sm3, sm4, sm5, sm6, sm7, sm8, wipeE, ↓compL_n, ↓compL_c, ↓compM_ap, List.filterMap_cons, List.filterMap_nil, ↓odixM, ↓odinM, ↓odic, ↓asDi, ↓DL.keyD, ↓un1O, ↓listO, ↓tryM, ↓sortD, ↓DL.max1D, ↓otupV, ↓backM, ↓dictO, ↓maxTD, ↓oidxM, ↓lenRg, ↓lenR]
    · have e : poolB c = 0 := by unfold poolB; rw [if_neg fun z => z.elim h1 h2]
      simp only [↓f_Lpool, ↓m_Lpool, decide_eq_false h1, d3, d4, d5, d6, decide_eq_false h2, e, d2, ↓bnd_ap, ↓ret_ap, ↓ask_ap, ↓fail_ap, ↓ite_ap, ↓dVar, ↓getO, ↓putO, ↓setI, ↓setO, ↓takeO, ↓frzV, getElem?_0, getElem?_s, List.set_cons_zero, List.set_cons_succ, ↓seqM, ↓seqK, ↓thenN, ↓ifM, ↓andB, ↓orB, ↓notB, ↓andV, ↓orV, ↓notV, ↓asB, ↓do2, ↓chM, ↓consM, ↓consD, ↓consO, ↓tupM, ↓lstM, ↓olstM, ↓frzM, ↓resD, ↓resO, ↓callN, ↓callA, ↓allD, ↓split1, ↓callD, ↓call1, ↓callK, ↓ioAt, ↓putS, ↓finA, ↓defM, ↓un1, ↓un2, ↓truD, ↓isiD, D.kind, CT.is, ↓ltD, ↓leD, ↓gtD, ↓geD, ↓addD, ↓subD, ↓mulD, ↓modD, ↓fdivD, ↓powD, ↓isNonD, ↓notNonD, ↓negD, ↓lenD, ↓absD, ↓DL.intD, ↓max2D, ↓min2D, ↓divD, ↓tupD, ↓hgM, ↓hsM, ↓hcallM, ↓oixM, ↓olist, ↓asL, ↓ixL, ↓olenM, ↓oappM, ↓osetM, ↓opopM, ↓oremM, ↓oinM, ↓oset, ↓asS, ↓oaddM, ↓osinM, ↓otupM, ↓tRgM, ↓lRgM, ↓asgM, ↓setTw, ↓setKs, ↓setTup, ↓setIs, ↓parM, ↓setVs, ↓setV, ↓vD, ↓vO, ↓oins, ↓asI, ↓fsetM, putFD, ↓hallM, hallOf, ↓mkM, ↓DL.forM, ↓itR1, ↓itR2, ↓itLst, ↓itTup, ↓enTup, ↓enLst, ↓partM, ↓slM, ↓asT, ↓tidxM, Option.map, List.map_cons, List.map_nil, List.cons_append, List.nil_append, List.length_cons, List.length_nil, List.replicate, Nat.reduceAdd, Nat.reduceSub, Nat.sub_self, Bool.not_true, Bool.not_false, ↓if_true, ↓if_false, ↓ite_true, ↓ite_false, true_and, and_true, Bool.true_eq_false, Bool.false_eq_true, reduceIte, pick_eq, at3_0, at3_1, at3_2, ix3_0, ix3_1, ix3_2, ↓eqM_ii, ↓eqM_ni, ↓eqM_in, ↓eqM_ss, ↓neM_ii, ↓neM_ss, backE, oldS, ↓loopK_nx, ↓loopK_rt, ↓forL_nil, ↓forL_cons, sl0, sl1, sl2, sl3, sl4, sl5, sl6, sl7, sl8, forall_const, sm0, sm1, sm2, sm3, sm4, sm5, sm6, sm7, sm8, wipeE, ↓compL_n, ↓compL_c, ↓compM_ap, List.filterMap_cons, List.filterMap_nil, ↓odixM, ↓odinM, ↓odic, ↓asDi, ↓DL.keyD, ↓un1O, ↓listO, ↓tryM, ↓sortD, ↓DL.max1D, ↓otupV, ↓backM, ↓dictO, ↓maxTD, ↓oidxM, ↓lenRg, ↓lenR]
theorem takeR_bd (a b c wide : Int) (h : 0 < wide) : 0 ≤ takeR a b c wide ∧ takeR a b c wide < wide := by
  unfold takeR
  split
  · exact ⟨Int.emod_nonneg _ (by omega), Int.emod_lt_of_pos _ h⟩
  · exact ⟨Int.emod_nonneg _ (by omega), Int.emod_lt_of_pos _ h⟩
/-! the pool as one thing -/
structure Pl where
  a : Int
  b : Int
  c : Int
def Pl.o (p : Pl) : O := .lst [.int p.a, .int p.b, .int p.c]
def Pl.st (p : Pl) (wide : Int) : Pl := ⟨takeS p.a p.b p.c, takeB p.b wide, p.c + 1⟩
def Pl.dr (p : Pl) (wide : Int) : Int := takeR p.a p.b p.c wide
theorem Pl.bd (p : Pl) {wide : Int} (h : 0 < wide) : 0 ≤ p.dr wide ∧ p.dr wide < wide := takeR_bd _ _ _ _ h
theorem p_tk (C : Addr) (x : Addr) (p : Pl) (wide : Int) (h1 : 0 < wide) (h2 : wide < 1073741824) (Q E) : f_Ltake C [.io x p.o, .im (.int wide)] Q E = Q (.d (.int (p.dr wide))) [.io x (p.st wide).o, .im (.int wide)] := p_take C x _ _ _ wide h1 h2 Q E
def szA (u : Int) (p : Pl) : Int × Pl := if (((p.st u).st 3).dr 8 == 5) = true then (1 + (((p.st u).st 3).st 8).dr 24, (((p.st u).st 3).st 8).st 24) else (1 + p.dr u, ((p.st u).st 3).st 8)
def szB (u : Int) (p : Pl) : Int × Pl := if ((szA u p).2.dr 8 == 5) = true then (((szA u p).2.st 8).dr 7, ((szA u p).2.st 8).st 7) else ((p.st u).dr 3, (szA u p).2.st 8)
theorem szA_bd {u : Int} (hu : 1 ≤ u ∧ u ≤ 24) (p : Pl) : 1 ≤ (szA u p).1 ∧ (szA u p).1 ≤ 24 := by
  unfold szA
  split
  · have := (((p.st u).st 3).st 8).bd (wide := 24) (by decide); exact ⟨by show 1 ≤ 1 + _; omega, by show 1 + _ ≤ 24; omega⟩
  · have := p.bd (wide := u) (by omega); exact ⟨by show 1 ≤ 1 + _; omega, by show 1 + _ ≤ 24; omega⟩
theorem szB_bd (u : Int) (p : Pl) : 0 ≤ (szB u p).1 ∧ (szB u p).1 ≤ 6 := by
  unfold szB
  split
  · have := ((szA u p).2.st 8).bd (wide := 7) (by decide); exact ⟨this.1, by have := this.2; show _ ≤ _; omega⟩
  · have := (p.st u).bd (wide := 3) (by decide); exact ⟨this.1, by have := this.2; show _ ≤ _; omega⟩
theorem p_sizes (C : Addr) (x : Addr) {u : Int} (hu : 1 ≤ u ∧ u ≤ 24) (p : Pl) (Q E) : f_Lsizes C [.io x p.o, .im (.int u)] Q E = Q (.d (.tup [.int (szA u p).1, .int (szB u p).1])) [.io x (szB u p).2.o, .im (.int u)] := by
  have tu := fun (x : Addr) (p : Pl) => p_tk C x p u (by omega) (by omega)
  have t7 := fun (x : Addr) (p : Pl) => p_tk C x p 7 (by decide) (by decide)
  have t3 := fun (x : Addr) (p : Pl) => p_tk C x p 3 (by decide) (by decide)
  have t8 := fun (x : Addr) (p : Pl) => p_tk C x p 8 (by decide) (by decide)
  have t24 := fun (x : Addr) (p : Pl) => p_tk C x p 24 (by decide) (by decide)
  cases h1 : ((p.st u).st 3).dr 8 == 5 with
  | true =>
    have eA : szA u p = (1 + (((p.st u).st 3).st 8).dr 24, (((p.st u).st 3).st 8).st 24) := by unfold szA; rw [h1, if_pos rfl]
    cases h2 : ((((p.st u).st 3).st 8).st 24).dr 8 == 5 with
    | true => simp only [↓f_Lsizes, ↓m_Lsizes, ↓tu, ↓t7, ↓t3, ↓t8, ↓t24, h1, h2, eA, szB, ↓bnd_ap, ↓ret_ap, ↓ask_ap, ↓fail_ap, ↓ite_ap, ↓dVar, ↓getO, ↓putO, ↓setI, ↓setO, ↓takeO, ↓frzV, getElem?_0, getElem?_s, List.set_cons_zero, List.set_cons_succ, ↓seqM, ↓seqK, ↓thenN, ↓ifM, ↓andB, ↓orB, ↓notB, ↓andV, ↓orV, ↓notV, ↓asB, ↓do2, ↓chM, ↓consM, ↓consD, ↓consO, ↓tupM, ↓lstM, ↓olstM, ↓frzM, ↓resD, ↓resO, ↓callN, ↓callA, ↓allD, ↓split1, ↓callD, ↓call1, ↓callK, ↓ioAt, ↓putS, ↓finA, ↓defM, ↓un1, ↓un2, ↓truD, ↓isiD, D.kind, CT.is, ↓ltD, ↓leD, ↓gtD, ↓geD, ↓addD, ↓subD, ↓mulD, ↓modD, ↓fdivD, ↓powD, ↓isNonD, ↓notNonD, ↓negD, ↓lenD, ↓absD, ↓DL.intD, ↓max2D, ↓min2D, ↓divD, ↓tupD, ↓hgM, ↓hsM, ↓hcallM, ↓oixM, ↓olist, ↓asL, ↓ixL, ↓olenM, ↓oappM, ↓osetM, ↓opopM, ↓oremM, ↓oinM, ↓oset, ↓asS, ↓oaddM, ↓osinM, ↓otupM, ↓tRgM, ↓lRgM, ↓asgM, ↓setTw, ↓setKs, ↓setTup, ↓setIs, ↓parM, ↓setVs, ↓setV, ↓vD, ↓vO, ↓oins, ↓asI, ↓fsetM, putFD, ↓hallM, hallOf, ↓mkM, ↓DL.forM, ↓itR1, ↓itR2, ↓itLst, ↓itTup, ↓enTup, ↓enLst, ↓partM, ↓slM, ↓asT, ↓tidxM, Option.map, List.map_cons, List.map_nil, List.cons_append, List.nil_append, List.length_cons, List.length_nil, List.replicate, Nat.reduceAdd, Nat.reduceSub, Nat.sub_self, Bool.not_true, Bool.not_false, ↓if_true, ↓if_false, ↓ite_true, ↓ite_false, true_and, and_true, Bool.true_eq_false, Bool.false_eq_true, reduceIte, pick_eq, at3_0, at3_1, at3_2, ix3_0, ix3_1, ix3_2, ↓eqM_ii, ↓eqM_ni, ↓eqM_in, ↓eqM_ss, ↓neM_ii, ↓neM_ss, backE, oldS, ↓loopK_nx, ↓loopK_rt, ↓forL_nil, ↓forL_cons, sl0, sl1, sl2, sl3, sl4, sl5, sl6, sl7, sl8, forall_const, sm0, sm1, sm2, sm3, sm4, sm5, sm6, sm7, sm8, wipeE, ↓compL_n, ↓compL_c, ↓compM_ap, List.filterMap_cons, List.filterMap_nil, ↓odixM, ↓odinM, ↓odic, ↓asDi, ↓DL.keyD, ↓un1O, ↓listO, ↓tryM, ↓sortD, ↓DL.max1D, ↓otupV, ↓backM, ↓dictO, ↓maxTD, ↓oidxM, ↓lenRg, ↓lenR]
    | false => simp only [↓f_Lsizes, ↓m_Lsizes, ↓tu, ↓t7, ↓t3, ↓t8, ↓t24, h1, h2, eA, szB, ↓bnd_ap, ↓ret_ap, ↓ask_ap, ↓fail_ap, ↓ite_ap, ↓dVar, ↓getO, ↓putO, ↓setI, ↓setO, ↓takeO, ↓frzV, getElem?_0, getElem?_s, List.set_cons_zero, List.set_cons_succ, ↓seqM, ↓seqK, ↓thenN, ↓ifM, ↓andB, ↓orB, ↓notB, ↓andV, ↓orV, ↓notV, ↓asB, ↓do2, ↓chM, ↓consM, ↓consD, ↓consO, ↓tupM, ↓lstM, ↓olstM, ↓frzM, ↓resD, ↓resO, ↓callN, ↓callA, ↓allD, ↓split1, ↓callD, ↓call1, ↓callK, ↓ioAt, ↓putS, ↓finA, ↓defM, ↓un1, ↓un2, ↓truD, ↓isiD, D.kind, CT.is, ↓ltD, ↓leD, ↓gtD, ↓geD, ↓addD, ↓subD, ↓mulD, ↓modD, ↓fdivD, ↓powD, ↓isNonD, ↓notNonD, ↓negD, ↓lenD, ↓absD, ↓DL.intD, ↓max2D, ↓min2D, ↓divD, ↓tupD, ↓hgM, ↓hsM, ↓hcallM, ↓oixM, ↓olist, ↓asL, ↓ixL, ↓olenM, ↓oappM, ↓osetM, ↓opopM, ↓oremM, ↓oinM, ↓oset, ↓asS, ↓oaddM, ↓osinM, ↓otupM, ↓tRgM, ↓lRgM, ↓asgM, ↓setTw, ↓setKs, ↓setTup, ↓setIs, ↓parM, ↓setVs, ↓setV, ↓vD, ↓vO, ↓oins, ↓asI, ↓fsetM, putFD, ↓hallM, hallOf, ↓mkM, ↓DL.forM, ↓itR1, ↓itR2, ↓itLst, ↓itTup, ↓enTup, ↓enLst, ↓partM, ↓slM, ↓asT, ↓tidxM, Option.map, List.map_cons, List.map_nil, List.cons_append, List.nil_append, List.length_cons, List.length_nil, List.replicate, Nat.reduceAdd, Nat.reduceSub, Nat.sub_self, Bool.not_true, Bool.not_false, ↓if_true, ↓if_false, ↓ite_true, ↓ite_false, true_and, and_true, Bool.true_eq_false, Bool.false_eq_true, reduceIte, pick_eq, at3_0, at3_1, at3_2, ix3_0, ix3_1, ix3_2, ↓eqM_ii, ↓eqM_ni, ↓eqM_in, ↓eqM_ss, ↓neM_ii, ↓neM_ss, backE, oldS, ↓loopK_nx, ↓loopK_rt, ↓forL_nil, ↓forL_cons, sl0, sl1, sl2, sl3, sl4, sl5, sl6, sl7, sl8, forall_const, sm0, sm1, sm2, sm3, sm4, sm5, sm6, sm7, sm8, wipeE, ↓compL_n, ↓compL_c, ↓compM_ap, List.filterMap_cons, List.filterMap_nil, ↓odixM, ↓odinM, ↓odic, ↓asDi, ↓DL.keyD, ↓un1O, ↓listO, ↓tryM, ↓sortD, ↓DL.max1D, ↓otupV, ↓backM, ↓dictO, ↓maxTD, ↓oidxM, ↓lenRg, ↓lenR]
  | false =>
    have eA : szA u p = (1 + p.dr u, ((p.st u).st 3).st 8) := by unfold szA; rw [h1, if_neg Bool.false_ne_true]
    cases h2 : (((p.st u).st 3).st 8).dr 8 == 5 with
    | true => simp only [↓f_Lsizes, ↓m_Lsizes, ↓tu, ↓t7, ↓t3, ↓t8, ↓t24, h1, h2, eA, szB, ↓bnd_ap, ↓ret_ap, ↓ask_ap, ↓fail_ap, ↓ite_ap, ↓dVar, ↓getO, ↓putO, ↓setI, ↓setO, ↓takeO, ↓frzV, getElem?_0, getElem?_s, List.set_cons_zero, List.set_cons_succ, ↓seqM, ↓seqK, ↓thenN, ↓ifM, ↓andB, ↓orB, ↓notB, ↓andV, ↓orV, ↓notV, ↓asB, ↓do2, ↓chM, ↓consM, ↓consD, ↓consO, ↓tupM, ↓lstM, ↓olstM, ↓frzM, ↓resD, ↓resO, ↓callN, ↓callA, ↓allD, ↓split1, ↓callD, ↓call1, ↓callK, ↓ioAt, ↓putS, ↓finA, ↓defM, ↓un1, ↓un2, ↓truD, ↓isiD, D.kind, CT.is, ↓ltD, ↓leD, ↓gtD, ↓geD, ↓addD, ↓subD, ↓mulD, ↓modD, ↓fdivD, ↓powD, ↓isNonD, ↓notNonD, ↓negD, ↓lenD, ↓absD, ↓DL.intD, ↓max2D, ↓min2D, ↓divD, ↓tupD, ↓hgM, ↓hsM, ↓hcallM, ↓oixM, ↓olist, ↓asL, ↓ixL, ↓olenM, ↓oappM, ↓osetM, ↓opopM, ↓oremM, ↓oinM, ↓oset, ↓asS, ↓oaddM, ↓osinM, ↓otupM, ↓tRgM, ↓lRgM, ↓asgM, ↓setTw, ↓setKs, ↓setTup, ↓setIs, ↓parM, ↓setVs, ↓setV, ↓vD, ↓vO, ↓oins, ↓asI, ↓fsetM, putFD, ↓hallM, hallOf, ↓mkM, ↓DL.forM, ↓itR1, ↓itR2, ↓itLst, ↓itTup, ↓enTup, ↓enLst, ↓partM, ↓slM, ↓asT, ↓tidxM, Option.map, List.map_cons, List.map_nil, List.cons_append, List.nil_append, List.length_cons, List.length_nil, List.replicate, Nat.reduceAdd, Nat.reduceSub, Nat.sub_self, Bool.not_true, Bool.not_false, ↓if_true, ↓if_false, ↓ite_true, ↓ite_false, true_and, and_true, Bool.true_eq_false, Bool.false_eq_true, reduceIte, pick_eq, at3_0, at3_1, at3_2, ix3_0, ix3_1, ix3_2, ↓eqM_ii, ↓eqM_ni, ↓eqM_in, ↓eqM_ss, ↓neM_ii, ↓neM_ss, backE, oldS, ↓loopK_nx, ↓loopK_rt, ↓forL_nil, ↓forL_cons, sl0, sl1, sl2, sl3, sl4, sl5, sl6, sl7, sl8, forall_const, sm0, sm1, sm2, sm3, sm4, sm5, sm6, sm7, sm8, wipeE, ↓compL_n, ↓compL_c, ↓compM_ap, List.filterMap_cons, List.filterMap_nil, ↓odixM, ↓odinM, ↓odic, ↓asDi, ↓DL.keyD, ↓un1O, ↓listO, ↓tryM, ↓sortD, ↓DL.max1D, ↓otupV, ↓backM, ↓dictO, ↓maxTD, ↓oidxM, ↓lenRg, ↓lenR]
    | false => simp only [↓f_Lsizes, ↓m_Lsizes, ↓tu, ↓t7, ↓t3, ↓t8, ↓t24, h1, h2, eA, szB, ↓bnd_ap, ↓ret_ap, ↓ask_ap, ↓fail_ap, ↓ite_ap, ↓dVar, ↓getO, ↓putO, ↓setI, ↓setO, ↓takeO, ↓frzV, getElem?_0, getElem?_s, List.set_cons_zero, List.set_cons_succ, ↓seqM, ↓seqK, ↓thenN, ↓ifM, ↓andB, ↓orB, ↓notB, ↓andV, ↓orV, ↓notV, ↓asB, ↓do2, ↓chM, ↓consM, ↓consD, ↓consO, ↓tupM, ↓lstM, ↓olstM, ↓frzM, ↓resD, ↓resO, ↓callN, ↓callA, ↓allD, ↓split1, ↓callD, ↓call1, ↓callK, ↓ioAt, ↓putS, ↓finA, ↓defM, ↓un1, ↓un2, ↓truD, ↓isiD, D.kind, CT.is, ↓ltD, ↓leD, ↓gtD, ↓geD, ↓addD, ↓subD, ↓mulD, ↓modD, ↓fdivD, ↓powD, ↓isNonD, ↓notNonD, ↓negD, ↓lenD, ↓absD, ↓DL.intD, ↓max2D, ↓min2D, ↓divD, ↓tupD, ↓hgM, ↓hsM, ↓hcallM, ↓oixM, ↓olist, ↓asL, ↓ixL, ↓olenM, ↓oappM, ↓osetM, ↓opopM, ↓oremM, ↓oinM, ↓oset, ↓asS, ↓oaddM, ↓osinM, ↓otupM, ↓tRgM, ↓lRgM, ↓asgM, ↓setTw, ↓setKs, ↓setTup, ↓setIs, ↓parM, ↓setVs, ↓setV, ↓vD, ↓vO, ↓oins, ↓asI, ↓fsetM, putFD, ↓hallM, hallOf, ↓mkM, ↓DL.forM, ↓itR1, ↓itR2, ↓itLst, ↓itTup, ↓enTup, ↓enLst, ↓partM, ↓slM, ↓asT, ↓tidxM, Option.map, List.map_cons, List.map_nil, List.cons_append, List.nil_append, List.length_cons, List.length_nil, List.replicate, Nat.reduceAdd, Nat.reduceSub, Nat.sub_self, Bool.not_true, Bool.not_false, ↓if_true, ↓if_false, ↓ite_true, ↓ite_false, true_and, and_true, Bool.true_eq_false, Bool.false_eq_true, reduceIte, pick_eq, at3_0, at3_1, at3_2, ix3_0, ix3_1, ix3_2, ↓eqM_ii, ↓eqM_ni, ↓eqM_in, ↓eqM_ss, ↓neM_ii, ↓neM_ss, backE, oldS, ↓loopK_nx, ↓loopK_rt, ↓forL_nil, ↓forL_cons, sl0, sl1, sl2, sl3, sl4, sl5, sl6, sl7, sl8, forall_const, sm0, sm1, sm2, sm3, sm4, sm5, sm6, sm7, sm8, wipeE, ↓compL_n, ↓compL_c, ↓compM_ap, List.filterMap_cons, List.filterMap_nil, ↓odixM, ↓odinM, ↓odic, ↓asDi, ↓DL.keyD, ↓un1O, ↓listO, ↓tryM, ↓sortD, ↓DL.max1D, ↓otupV, ↓backM, ↓dictO, ↓maxTD, ↓oidxM, ↓lenRg, ↓lenR]
end DLP

set_option Elab.async false
set_option linter.all false
set_option maxRecDepth 100000
set_option maxHeartbeats 4000000
namespace DLP
open PySem PySem.Spec PyProof.Rows L2 DL MW
/-! ### showing data of any kind -/
structure ShP (d : D) (n b : Nat) : Prop where
  ok : pyOk d = true
  sh : (py d).showable = true
  nd : (py d).hasDict = false
  lf : (py d).leavesShort 40 = true
  dp : (py d).depth ≤ n
  bk : (py d).bulk ≤ b
structure ShK (d : D) (n b : Nat) : Prop where
  ok : okD d = true
  sh : (pyE d).showable = true
  lf : (pyE d).leavesShort 40 = true
  dp : (pyE d).depth ≤ n
  bk : (pyE d).bulk ≤ b
theorem ShP.mono {d : D} {n b m c : Nat} (h : ShP d n b) (h1 : n ≤ m) (h2 : b ≤ c) : ShP d m c := ⟨h.ok, h.sh, h.nd, h.lf, Nat.le_trans h.dp h1, Nat.le_trans h.bk h2⟩
theorem ShK.mono {d : D} {n b m c : Nat} (h : ShK d n b) (h1 : n ≤ m) (h2 : b ≤ c) : ShK d m c := ⟨h.ok, h.sh, h.lf, Nat.le_trans h.dp h1, Nat.le_trans h.bk h2⟩
theorem shP_all {n b : Nat} : ∀ {ds : List D}, (∀ d ∈ ds, ShP d n b) → pyOkL ds = true ∧ PyData.showableAll (pyL ds) = true ∧ PyData.hasDictAll (pyL ds) = false ∧ PyData.leavesShortAll 40 (pyL ds) = true ∧ PyData.depthAll (pyL ds) ≤ n ∧ PyData.bulkAll (pyL ds) ≤ (b + 1) * ds.length
  | [], _ => ⟨rfl, rfl, rfl, rfl, Nat.zero_le _, Nat.le_refl _⟩
  | d :: ds, h => by
    obtain ⟨a1, a2, a3, a4, a5, a6⟩ := h d List.mem_cons_self
    obtain ⟨b1, b2, b3, b4, b5, b6⟩ := shP_all (ds := ds) fun e he => h e (List.mem_cons_of_mem _ he)
    refine ⟨?_, ?_, ?_, ?_, ?_, ?_⟩
    · show (pyOk d && pyOkL ds) = true; rw [a1, b1]; rfl
    · show ((py d).showable && PyData.showableAll (pyL ds)) = true; rw [a2, b2]; rfl
    · show ((py d).hasDict || PyData.hasDictAll (pyL ds)) = false; rw [a3, b3]; rfl
    · show ((py d).leavesShort 40 && PyData.leavesShortAll 40 (pyL ds)) = true; rw [a4, b4]; rfl
    · show max (py d).depth (PyData.depthAll (pyL ds)) ≤ n; omega
    · show (py d).bulk + 1 + PyData.bulkAll (pyL ds) ≤ (b + 1) * (ds.length + 1); rw [Nat.mul_add]; omega
theorem shK_all {n b : Nat} : ∀ {ds : List D}, (∀ d ∈ ds, ShK d n b) → okDL ds = true ∧ PyData.showableAll (pyEL ds) = true ∧ PyData.leavesShortAll 40 (pyEL ds) = true ∧ PyData.depthAll (pyEL ds) ≤ n ∧ PyData.bulkAll (pyEL ds) ≤ (b + 1) * ds.length
  | [], _ => ⟨rfl, rfl, rfl, Nat.zero_le _, Nat.le_refl _⟩
  | d :: ds, h => by
    obtain ⟨a1, a2, a4, a5, a6⟩ := h d List.mem_cons_self
    obtain ⟨b1, b2, b4, b5, b6⟩ := shK_all (ds := ds) fun e he => h e (List.mem_cons_of_mem _ he)
    refine ⟨?_, ?_, ?_, ?_, ?_⟩
    · show (okD d && okDL ds) = true; rw [a1, b1]; rfl
    · show ((pyE d).showable && PyData.showableAll (pyEL ds)) = true; rw [a2, b2]; rfl
    · show ((pyE d).leavesShort 40 && PyData.leavesShortAll 40 (pyEL ds)) = true; rw [a4, b4]; rfl
    · show max (pyE d).depth (PyData.depthAll (pyEL ds)) ≤ n; omega
    · show (pyE d).bulk + 1 + PyData.bulkAll (pyEL ds) ≤ (b + 1) * (ds.length + 1); rw [Nat.mul_add]; omega
theorem ShP.tup {ds : List D} {n b : Nat} (h : ∀ d ∈ ds, ShP d n b) : ShP (.tup ds) (n + 1) ((b + 1) * ds.length) :=
  let ⟨a1, a2, a3, a4, a5, a6⟩ := shP_all h; ⟨a1, a2, a3, a4, Nat.succ_le_succ a5, a6⟩
theorem ShP.lst {ds : List D} {n b : Nat} (h : ∀ d ∈ ds, ShP d n b) : ShP (.lst ds) (n + 1) ((b + 1) * ds.length) :=
  let ⟨a1, a2, a3, a4, a5, a6⟩ := shP_all h; ⟨a1, a2, a3, a4, Nat.succ_le_succ a5, a6⟩
theorem ShK.tup {ds : List D} {n b : Nat} (h : ∀ d ∈ ds, ShK d n b) : ShK (.tup ds) (n + 1) ((b + 1) * ds.length) :=
  let ⟨a1, a2, a4, a5, a6⟩ := shK_all h; ⟨a1, a2, a4, Nat.succ_le_succ a5, a6⟩
theorem ShP.rep {d : D} {n b : Nat} (h : ShP d n b) (c : compE d = true) (h1 : n ≤ 64) (h2 : b ≤ 65536) (env : List DL.Slot) (Q E) : reprE d env Q E = Q (.str (pyE d).shown) env := by
  have s : shOkE (py d) = true := by
    unfold shOkE
    rw [h.sh, h.lf, decide_eq_true (Nat.le_trans h.dp h1), decide_eq_true (show (py d).bulk ≤ 2 ^ 16 by have := h.bk; omega)]; rfl
  have k : (compE d = true ∧ ((pyOk d = true ∧ shOk (py d) = true) ∨ (okD d = true ∧ shOkE (pyE d) = true) ∨ (pyOk d = true ∧ (py d).hasDict = false ∧ shOkE (py d) = true) ∨ (okT d = true ∧ shOkE (pyE d) = true))) := ⟨c, .inr (.inr (.inl ⟨h.ok, h.nd, s⟩))⟩
  cases d with
  | tup ds => exact propext ⟨fun z => z.2, fun z => ⟨k, z⟩⟩
  | lst ds => exact propext ⟨fun z => z.2, fun z => ⟨k, z⟩⟩
  | emp => exact propext ⟨fun z => z.2, fun z => ⟨k, z⟩⟩
  | _ => cases c
theorem ShK.rep {d : D} {n b : Nat} (h : ShK d n b) (c : compE d = true) (h1 : n ≤ 64) (h2 : b ≤ 65536) (env : List DL.Slot) (Q E) : reprE d env Q E = Q (.str (pyE d).shown) env := by
  have s : shOkE (pyE d) = true := by
    unfold shOkE
    rw [h.sh, h.lf, decide_eq_true (Nat.le_trans h.dp h1), decide_eq_true (show (pyE d).bulk ≤ 2 ^ 16 by have := h.bk; omega)]; rfl
  have k : (compE d = true ∧ ((pyOk d = true ∧ shOk (py d) = true) ∨ (okD d = true ∧ shOkE (pyE d) = true) ∨ (pyOk d = true ∧ (py d).hasDict = false ∧ shOkE (py d) = true) ∨ (okT d = true ∧ shOkE (pyE d) = true))) := ⟨c, .inr (.inl ⟨h.ok, s⟩)⟩
  cases d with
  | tup ds => exact propext ⟨fun z => z.2, fun z => ⟨k, z⟩⟩
  | lst ds => exact propext ⟨fun z => z.2, fun z => ⟨k, z⟩⟩
  | emp => exact propext ⟨fun z => z.2, fun z => ⟨k, z⟩⟩
  | _ => cases c
theorem int_lf : ∀ n : Fin 64, (PyData.int (n.val : Int)).leavesShort 40 = true ∧ (PyData.int (n.val : Int)).showable = true := by decide +kernel
theorem shP_int {i : Int} (h : 0 ≤ i ∧ i < 64) : ShP (.int i) 0 0 := by
  have := int_lf ⟨i.toNat, by omega⟩
  have q : ((i.toNat : Nat) : Int) = i := by omega
  simp only [q] at this
  exact ⟨rfl, this.2, rfl, this.1, Nat.le_refl _, Nat.le_refl _⟩
theorem shK_int {i : Int} (h : 0 ≤ i ∧ i < 64) : ShK (.int i) 0 0 := ⟨rfl, (shP_int h).sh, (shP_int h).lf, Nat.le_refl _, Nat.le_refl _⟩
theorem shP_o {o : Option Int} (h : ∀ i, o = some i → 0 ≤ i ∧ i < 64) : ShP (oD o) 0 0 := by
  cases o with
  | none => exact ⟨rfl, rfl, rfl, rfl, Nat.le_refl _, Nat.le_refl _⟩
  | some i => exact shP_int (h i rfl)
theorem shK_o {o : Option Int} (h : ∀ i, o = some i → 0 ≤ i ∧ i < 64) : ShK (oD o) 0 0 := by
  cases o with
  | none => exact ⟨rfl, rfl, rfl, Nat.le_refl _, Nat.le_refl _⟩
  | some i => exact shK_int (h i rfl)
theorem small_log {n : Int} (h : 0 ≤ n ∧ n < 64) : (n.natAbs.log2 < 1920) = True := eq_true (by
  have a : n.natAbs < 2 ^ 30 := by omega
  by_cases z : n.natAbs = 0
  · rw [z]; decide
  · have := (Nat.log2_lt z).mpr a; omega)
theorem hallR_len : ∀ g : Fin 25, ∀ s : Fin 7, (Str.empty ++ ("Hall(" : Str)).length ≤ 40 ∧ ((Str.empty ++ ("Hall(" : Str)) ++ ((toString (g.val : Int) : String) : Str)).length ≤ 40 ∧ (((Str.empty ++ ("Hall(" : Str)) ++ ((toString (g.val : Int) : String) : Str)) ++ (", spare=" : Str)).length ≤ 40 ∧
    ((((Str.empty ++ ("Hall(" : Str)) ++ ((toString (g.val : Int) : String) : Str)) ++ (", spare=" : Str)) ++ ((toString (s.val : Int) : String) : Str)).length ≤ 40 ∧ (((((Str.empty ++ ("Hall(" : Str)) ++ ((toString (g.val : Int) : String) : Str)) ++ (", spare=" : Str)) ++ ((toString (s.val : Int) : String) : Str)) ++ (")" : Str)).length ≤ 40 := by decide +kernel
theorem p_hrepr (C : Addr) (g s : Int) (hg : 1 ≤ g ∧ g ≤ 24) (hs : 0 ≤ s ∧ s ≤ 6) (Q E) : f_Hall_repr C [.im (.hall g s)] Q E = Q (.d (.str (hallRt g s))) [.im (.hall g s)] := by
  have z := hallR_len ⟨g.toNat, by omega⟩ ⟨s.toNat, by omega⟩
  have e1 : ((g.toNat : Nat) : Int) = g := by omega
  have e2 : ((s.toNat : Nat) : Int) = s := by omega
  simp only [e1, e2] at z
  obtain ⟨z1, z2, z3, z4, z5⟩ := z
  have y1 := eq_true (Nat.le_trans z1 (show 40 ≤ sizeLine by rw [sizeLine_eq]; decide))
  have y2 := eq_true (Nat.le_trans z2 (show 40 ≤ sizeLine by rw [sizeLine_eq]; decide))
  have y3 := eq_true (Nat.le_trans z3 (show 40 ≤ sizeLine by rw [sizeLine_eq]; decide))
  have y4 := eq_true (Nat.le_trans z4 (show 40 ≤ sizeLine by rw [sizeLine_eq]; decide))
  have y5 := eq_true (Nat.le_trans z5 (show 40 ≤ sizeLine by rw [sizeLine_eq]; decide))
  have l1 := small_log (n := g) (by omega)
  have l2 := small_log (n := s) (by omega)
  simp only [↓f_Hall_repr, ↓m_Hall_repr, ↓joinM, ↓fmtD, ↓catTo, l1, l2, y1, y2, y3, y4, y5, hallRt, ↓bnd_ap, ↓ret_ap, ↓ask_ap, ↓fail_ap, ↓ite_ap, ↓dVar, ↓getO, ↓putO, ↓setI, ↓setO, ↓takeO, ↓frzV, getElem?_0, getElem?_s, List.set_cons_zero, List.set_cons_succ, ↓seqM, ↓seqK, ↓thenN, ↓ifM, ↓andB, ↓orB, ↓notB, ↓andV, ↓orV, ↓notV, ↓asB, ↓do2, ↓chM, ↓consM, ↓consD, ↓consO, ↓tupM, ↓lstM, ↓olstM, ↓frzM, ↓resD, ↓resO, ↓callN, ↓callA, ↓allD, ↓split1, ↓callD, ↓call1, ↓callK, ↓ioAt, ↓putS, ↓finA, ↓defM, ↓un1, ↓un2, ↓truD, ↓isiD, D.kind, CT.is, ↓ltD, ↓leD, ↓gtD, ↓geD, ↓addD, ↓subD, ↓mulD, ↓modD, ↓fdivD, ↓powD, ↓isNonD, ↓notNonD, ↓negD, ↓lenD, ↓absD, ↓DL.intD, ↓max2D, ↓min2D, ↓divD, ↓tupD, ↓hgM, ↓hsM, ↓hcallM, ↓oixM, ↓olist, ↓asL, ↓ixL, ↓olenM, ↓oappM, ↓osetM, ↓opopM, ↓oremM, ↓oinM, ↓oset, ↓asS, ↓oaddM, ↓osinM, ↓otupM, ↓tRgM, ↓lRgM, ↓asgM, ↓setTw, ↓setKs, ↓setTup, ↓setIs, ↓parM, ↓setVs, ↓setV, ↓vD, ↓vO, ↓oins, ↓asI, ↓fsetM, putFD, ↓hallM, hallOf, ↓mkM, ↓DL.forM, ↓itR1, ↓itR2, ↓itLst, ↓itTup, ↓enTup, ↓enLst, ↓partM, ↓slM, ↓asT, ↓tidxM, Option.map, List.map_cons, List.map_nil, List.cons_append, List.nil_append, List.length_cons, List.length_nil, List.replicate, Nat.reduceAdd, Nat.reduceSub, Nat.sub_self, Bool.not_true, Bool.not_false, ↓if_true, ↓if_false, ↓ite_true, ↓ite_false, true_and, and_true, Bool.true_eq_false, Bool.false_eq_true, reduceIte, pick_eq, at3_0, at3_1, at3_2, ix3_0, ix3_1, ix3_2, ↓eqM_ii, ↓eqM_ni, ↓eqM_in, ↓eqM_ss, ↓neM_ii, ↓neM_ss, backE, oldS, ↓loopK_nx, ↓loopK_rt, ↓forL_nil, ↓forL_cons, sl0, sl1, sl2, sl3, sl4, sl5, sl6, sl7, sl8, forall_const, sm0, sm1, sm2, sm3, sm4, sm5, sm6, sm7, sm8, wipeE, ↓compL_n, ↓compL_c, ↓compM_ap, List.filterMap_cons, List.filterMap_nil, ↓odixM, ↓odinM, ↓odic, ↓asDi, ↓DL.keyD, ↓un1O, ↓listO, ↓tryM, ↓sortD, ↓DL.max1D, ↓otupV, ↓backM, ↓dictO, ↓maxTD, ↓oidxM, ↓lenRg, ↓lenR]
def hallT (g s : Int) : Str := ((Str.empty ++ (toString g : String)) ++ ("+" : Str)) ++ ((toString s : String) : Str)
theorem hallT_len : ∀ g : Fin 25, ∀ s : Fin 7, (Str.empty ++ ((toString (g.val : Int) : String) : Str)).length ≤ 20 ∧ ((Str.empty ++ ((toString (g.val : Int) : String) : Str)) ++ ("+" : Str)).length ≤ 20 ∧ (hallT g.val s.val).length ≤ 20 := by decide +kernel
theorem p_hstr (C : Addr) (g s : Int) (hg : 1 ≤ g ∧ g ≤ 24) (hs : 0 ≤ s ∧ s ≤ 6) (Q E) : f_Hall_str C [.im (.hall g s)] Q E = Q (.d (.str (hallT g s))) [.im (.hall g s)] := by
  have z := hallT_len ⟨g.toNat, by omega⟩ ⟨s.toNat, by omega⟩
  have e1 : ((g.toNat : Nat) : Int) = g := by omega
  have e2 : ((s.toNat : Nat) : Int) = s := by omega
  simp only [e1, e2] at z
  obtain ⟨z1, z2, z3⟩ := z
  have y1 : ((Str.empty ++ ((toString g : String) : Str)).length ≤ sizeLine) = True := eq_true (by rw [sizeLine_eq]; omega)
  have y2 : (((Str.empty ++ ((toString g : String) : Str)) ++ ("+" : Str)).length ≤ sizeLine) = True := eq_true (by rw [sizeLine_eq]; omega)
  have y3 : ((((Str.empty ++ (toString g : String)) ++ ("+" : Str)) ++ ((toString s : String) : Str)).length ≤ sizeLine) = True := eq_true (by rw [sizeLine_eq]; unfold hallT at z3; omega)
  have l1 := small_log (n := g) (by omega)
  have l2 := small_log (n := s) (by omega)
  simp only [↓f_Hall_str, ↓m_Hall_str, ↓joinM, ↓fmtD, ↓catTo, l1, l2, y1, y2, y3, hallT, ↓bnd_ap, ↓ret_ap, ↓ask_ap, ↓fail_ap, ↓ite_ap, ↓dVar, ↓getO, ↓putO, ↓setI, ↓setO, ↓takeO, ↓frzV, getElem?_0, getElem?_s, List.set_cons_zero, List.set_cons_succ, ↓seqM, ↓seqK, ↓thenN, ↓ifM, ↓andB, ↓orB, ↓notB, ↓andV, ↓orV, ↓notV, ↓asB, ↓do2, ↓chM, ↓consM, ↓consD, ↓consO, ↓tupM, ↓lstM, ↓olstM, ↓frzM, ↓resD, ↓resO, ↓callN, ↓callA, ↓allD, ↓split1, ↓callD, ↓call1, ↓callK, ↓ioAt, ↓putS, ↓finA, ↓defM, ↓un1, ↓un2, ↓truD, ↓isiD, D.kind, CT.is, ↓ltD, ↓leD, ↓gtD, ↓geD, ↓addD, ↓subD, ↓mulD, ↓modD, ↓fdivD, ↓powD, ↓isNonD, ↓notNonD, ↓negD, ↓lenD, ↓absD, ↓DL.intD, ↓max2D, ↓min2D, ↓divD, ↓tupD, ↓hgM, ↓hsM, ↓hcallM, ↓oixM, ↓olist, ↓asL, ↓ixL, ↓olenM, ↓oappM, ↓osetM, ↓opopM, ↓oremM, ↓oinM, ↓oset, ↓asS, ↓oaddM, ↓osinM, ↓otupM, ↓tRgM, ↓lRgM, ↓asgM, ↓setTw, ↓setKs, ↓setTup, ↓setIs, ↓parM, ↓setVs, ↓setV, ↓vD, ↓vO, ↓oins, ↓asI, ↓fsetM, putFD, ↓hallM, hallOf, ↓mkM, ↓DL.forM, ↓itR1, ↓itR2, ↓itLst, ↓itTup, ↓enTup, ↓enLst, ↓partM, ↓slM, ↓asT, ↓tidxM, Option.map, List.map_cons, List.map_nil, List.cons_append, List.nil_append, List.length_cons, List.length_nil, List.replicate, Nat.reduceAdd, Nat.reduceSub, Nat.sub_self, Bool.not_true, Bool.not_false, ↓if_true, ↓if_false, ↓ite_true, ↓ite_false, true_and, and_true, Bool.true_eq_false, Bool.false_eq_true, reduceIte, pick_eq, at3_0, at3_1, at3_2, ix3_0, ix3_1, ix3_2, ↓eqM_ii, ↓eqM_ni, ↓eqM_in, ↓eqM_ss, ↓neM_ii, ↓neM_ss, backE, oldS, ↓loopK_nx, ↓loopK_rt, ↓forL_nil, ↓forL_cons, sl0, sl1, sl2, sl3, sl4, sl5, sl6, sl7, sl8, forall_const, sm0, sm1, sm2, sm3, sm4, sm5, sm6, sm7, sm8, wipeE, ↓compL_n, ↓compL_c, ↓compM_ap, List.filterMap_cons, List.filterMap_nil, ↓odixM, ↓odinM, ↓odic, ↓asDi, ↓DL.keyD, ↓un1O, ↓listO, ↓tryM, ↓sortD, ↓DL.max1D, ↓otupV, ↓backM, ↓dictO, ↓maxTD, ↓oidxM, ↓lenRg, ↓lenR]
end DLP

set_option Elab.async false
set_option linter.all false
set_option maxRecDepth 100000
set_option maxHeartbeats 4000000
namespace DLP
open PySem PySem.Spec PyProof.Rows L2 DL MW
theorem p_hlen (C : Addr) (g s : Int) (hg : 1 ≤ g ∧ g ≤ 24) (Q E) : f_Hall_len C [.im (.hall g s)] Q E = Q (.d (.int g)) [.im (.hall g s)] := by
  have b1 : -(2 ^ 62) ≤ g ∧ g < 2 ^ 62 := by omega
  have b2 : 0 < g := by omega
  simp only [↓f_Hall_len, ↓m_Hall_len, lenRg, b1, b2, if_true, ↓bnd_ap, ↓ret_ap, ↓ask_ap, ↓fail_ap, ↓ite_ap, ↓dVar, ↓getO, ↓putO, ↓setI, ↓setO, ↓takeO, ↓frzV, getElem?_0, getElem?_s, List.set_cons_zero, List.set_cons_succ, ↓seqM, ↓seqK, ↓thenN, ↓ifM, ↓andB, ↓orB, ↓notB, ↓andV, ↓orV, ↓notV, ↓asB, ↓do2, ↓chM, ↓consM, ↓consD, ↓consO, ↓tupM, ↓lstM, ↓olstM, ↓frzM, ↓resD, ↓resO, ↓callN, ↓callA, ↓allD, ↓split1, ↓callD, ↓call1, ↓callK, ↓ioAt, ↓putS, ↓finA, ↓defM, ↓un1, ↓un2, ↓truD, ↓isiD, D.kind, CT.is, ↓ltD, ↓leD, ↓gtD, ↓geD, ↓addD, ↓subD, ↓mulD, ↓modD, ↓fdivD, ↓powD, ↓isNonD, ↓notNonD, ↓negD, ↓lenD, ↓absD, ↓DL.intD, ↓max2D, ↓min2D, ↓divD, ↓tupD, ↓hgM, ↓hsM, ↓hcallM, ↓oixM, ↓olist, ↓asL, ↓ixL, ↓olenM, ↓oappM, ↓osetM, ↓opopM, ↓oremM, ↓oinM, ↓oset, ↓asS, ↓oaddM, ↓osinM, ↓otupM, ↓tRgM, ↓lRgM, ↓asgM, ↓setTw, ↓setKs, ↓setTup, ↓setIs, ↓parM, ↓setVs, ↓setV, ↓vD, ↓vO, ↓oins, ↓asI, ↓fsetM, putFD, ↓hallM, hallOf, ↓mkM, ↓DL.forM, ↓itR1, ↓itR2, ↓itLst, ↓itTup, ↓enTup, ↓enLst, ↓partM, ↓slM, ↓asT, ↓tidxM, Option.map, List.map_cons, List.map_nil, List.cons_append, List.nil_append, List.length_cons, List.length_nil, List.replicate, Nat.reduceAdd, Nat.reduceSub, Nat.sub_self, Bool.not_true, Bool.not_false, ↓if_true, ↓if_false, ↓ite_true, ↓ite_false, true_and, and_true, Bool.true_eq_false, Bool.false_eq_true, reduceIte, pick_eq, at3_0, at3_1, at3_2, ix3_0, ix3_1, ix3_2, ↓eqM_ii, ↓eqM_ni, ↓eqM_in, ↓eqM_ss, ↓neM_ii, ↓neM_ss, backE, oldS, ↓loopK_nx, ↓loopK_rt, ↓forL_nil, ↓forL_cons, sl0, sl1, sl2, sl3, sl4, sl5, sl6, sl7, sl8, forall_const, sm0, sm1, sm2, sm3, sm4, sm5, sm6, sm7, sm8, wipeE, ↓compL_n, ↓compL_c, ↓compM_ap, List.filterMap_cons, List.filterMap_nil, ↓odixM, ↓odinM, ↓odic, ↓asDi, ↓DL.keyD, ↓un1O, ↓listO, ↓tryM, ↓sortD, ↓DL.max1D, ↓otupV, ↓backM, ↓dictO, ↓maxTD, ↓oidxM, ↓lenRg, ↓lenR]
theorem eq_pair (a b c d : Int) (env : List DL.Slot) (Q E) : eqM (.tup [.int a, .int b]) (.tup [.int c, .int d]) env Q E = Q (.bl (decide (a = c ∧ b = d))) env := by
  have ok : ∀ x y : Int, eqOk (.tup [.int x, .int y]) = true := fun x y => by
    unfold eqOk
    rw [show pyOk (.tup [.int x, .int y]) = true from rfl, decide_eq_true (by simp only [py, pyL, PyData.depth, PyData.depthAll]; decide)]; rfl
  rw [eqM_gen (fun s e => by cases e) (ok a b) (ok c d)]
  have e : eqv (.tup [.int a, .int b]) (.tup [.int c, .int d]) = decide (a = c ∧ b = d) := by
    show ((a == c) && ((b == d) && true)) = _
    rw [Bool.and_true, Bool.eq_iff_iff]; simp
  rw [e]
theorem p_heq (C : Addr) : EqOk (f_Hall_eq C) := fun g s g' s' Q E => by
  have e := fun env Q E => eq_pair g s g' s' env Q E
  simp only [↓f_Hall_eq, ↓m_Hall_eq, ↓e, ↓bnd_ap, ↓ret_ap, ↓ask_ap, ↓fail_ap, ↓ite_ap, ↓dVar, ↓getO, ↓putO, ↓setI, ↓setO, ↓takeO, ↓frzV, getElem?_0, getElem?_s, List.set_cons_zero, List.set_cons_succ, ↓seqM, ↓seqK, ↓thenN, ↓ifM, ↓andB, ↓orB, ↓notB, ↓andV, ↓orV, ↓notV, ↓asB, ↓do2, ↓chM, ↓consM, ↓consD, ↓consO, ↓tupM, ↓lstM, ↓olstM, ↓frzM, ↓resD, ↓resO, ↓callN, ↓callA, ↓allD, ↓split1, ↓callD, ↓call1, ↓callK, ↓ioAt, ↓putS, ↓finA, ↓defM, ↓un1, ↓un2, ↓truD, ↓isiD, D.kind, CT.is, ↓ltD, ↓leD, ↓gtD, ↓geD, ↓addD, ↓subD, ↓mulD, ↓modD, ↓fdivD, ↓powD, ↓isNonD, ↓notNonD, ↓negD, ↓lenD, ↓absD, ↓DL.intD, ↓max2D, ↓min2D, ↓divD, ↓tupD, ↓hgM, ↓hsM, ↓hcallM, ↓oixM, ↓olist, ↓asL, ↓ixL, ↓olenM, ↓oappM, ↓osetM, ↓opopM, ↓oremM, ↓oinM, ↓oset, ↓asS, ↓oaddM, ↓osinM, ↓otupM, ↓tRgM, ↓lRgM, ↓asgM, ↓setTw, ↓setKs, ↓setTup, ↓setIs, ↓parM, ↓setVs, ↓setV, ↓vD, ↓vO, ↓oins, ↓asI, ↓fsetM, putFD, ↓hallM, hallOf, ↓mkM, ↓DL.forM, ↓itR1, ↓itR2, ↓itLst, ↓itTup, ↓enTup, ↓enLst, ↓partM, ↓slM, ↓asT, ↓tidxM, Option.map, List.map_cons, List.map_nil, List.cons_append, List.nil_append, List.length_cons, List.length_nil, List.replicate, Nat.reduceAdd, Nat.reduceSub, Nat.sub_self, Bool.not_true, Bool.not_false, ↓if_true, ↓if_false, ↓ite_true, ↓ite_false, true_and, and_true, Bool.true_eq_false, Bool.false_eq_true, reduceIte, pick_eq, at3_0, at3_1, at3_2, ix3_0, ix3_1, ix3_2, ↓eqM_ii, ↓eqM_ni, ↓eqM_in, ↓eqM_ss, ↓neM_ii, ↓neM_ss, backE, oldS, ↓loopK_nx, ↓loopK_rt, ↓forL_nil, ↓forL_cons, sl0, sl1, sl2, sl3, sl4, sl5, sl6, sl7, sl8, forall_const, sm0, sm1, sm2, sm3, sm4, sm5, sm6, sm7, sm8, wipeE, ↓compL_n, ↓compL_c, ↓compM_ap, List.filterMap_cons, List.filterMap_nil, ↓odixM, ↓odinM, ↓odic, ↓asDi, ↓DL.keyD, ↓un1O, ↓listO, ↓tryM, ↓sortD, ↓DL.max1D, ↓otupV, ↓backM, ↓dictO, ↓maxTD, ↓oidxM, ↓lenRg, ↓lenR]
theorem p_heq_no (C : Addr) (g s : Int) (d : D) (h : sideOk d = true) (Q E) : f_Hall_eq C [.im (.hall g s), .im d] Q E = Q (.d (.bl false)) [.im (.hall g s), .im d] := by
  cases d with
  | non => simp only [↓f_Hall_eq, ↓m_Hall_eq, ↓bnd_ap, ↓ret_ap, ↓ask_ap, ↓fail_ap, ↓ite_ap, ↓dVar, ↓getO, ↓putO, ↓setI, ↓setO, ↓takeO, ↓frzV, getElem?_0, getElem?_s, List.set_cons_zero, List.set_cons_succ, ↓seqM, ↓seqK, ↓thenN, ↓ifM, ↓andB, ↓orB, ↓notB, ↓andV, ↓orV, ↓notV, ↓asB, ↓do2, ↓chM, ↓consM, ↓consD, ↓consO, ↓tupM, ↓lstM, ↓olstM, ↓frzM, ↓resD, ↓resO, ↓callN, ↓callA, ↓allD, ↓split1, ↓callD, ↓call1, ↓callK, ↓ioAt, ↓putS, ↓finA, ↓defM, ↓un1, ↓un2, ↓truD, ↓isiD, D.kind, CT.is, ↓ltD, ↓leD, ↓gtD, ↓geD, ↓addD, ↓subD, ↓mulD, ↓modD, ↓fdivD, ↓powD, ↓isNonD, ↓notNonD, ↓negD, ↓lenD, ↓absD, ↓DL.intD, ↓max2D, ↓min2D, ↓divD, ↓tupD, ↓hgM, ↓hsM, ↓hcallM, ↓oixM, ↓olist, ↓asL, ↓ixL, ↓olenM, ↓oappM, ↓osetM, ↓opopM, ↓oremM, ↓oinM, ↓oset, ↓asS, ↓oaddM, ↓osinM, ↓otupM, ↓tRgM, ↓lRgM, ↓asgM, ↓setTw, ↓setKs, ↓setTup, ↓setIs, ↓parM, ↓setVs, ↓setV, ↓vD, ↓vO, ↓oins, ↓asI, ↓fsetM, putFD, ↓hallM, hallOf, ↓mkM, ↓DL.forM, ↓itR1, ↓itR2, ↓itLst, ↓itTup, ↓enTup, ↓enLst, ↓partM, ↓slM, ↓asT, ↓tidxM, Option.map, List.map_cons, List.map_nil, List.cons_append, List.nil_append, List.length_cons, List.length_nil, List.replicate, Nat.reduceAdd, Nat.reduceSub, Nat.sub_self, Bool.not_true, Bool.not_false, ↓if_true, ↓if_false, ↓ite_true, ↓ite_false, true_and, and_true, Bool.true_eq_false, Bool.false_eq_true, reduceIte, pick_eq, at3_0, at3_1, at3_2, ix3_0, ix3_1, ix3_2, ↓eqM_ii, ↓eqM_ni, ↓eqM_in, ↓eqM_ss, ↓neM_ii, ↓neM_ss, backE, oldS, ↓loopK_nx, ↓loopK_rt, ↓forL_nil, ↓forL_cons, sl0, sl1, sl2, sl3, sl4, sl5, sl6, sl7, sl8, forall_const, sm0, sm1, sm2, sm3, sm4, sm5, sm6, sm7, sm8, wipeE, ↓compL_n, ↓compL_c, ↓compM_ap, List.filterMap_cons, List.filterMap_nil, ↓odixM, ↓odinM, ↓odic, ↓asDi, ↓DL.keyD, ↓un1O, ↓listO, ↓tryM, ↓sortD, ↓DL.max1D, ↓otupV, ↓backM, ↓dictO, ↓maxTD, ↓oidxM, ↓lenRg, ↓lenR]
  | bl b => simp only [↓f_Hall_eq, ↓m_Hall_eq, ↓bnd_ap, ↓ret_ap, ↓ask_ap, ↓fail_ap, ↓ite_ap, ↓dVar, ↓getO, ↓putO, ↓setI, ↓setO, ↓takeO, ↓frzV, getElem?_0, getElem?_s, List.set_cons_zero, List.set_cons_succ, ↓seqM, ↓seqK, ↓thenN, ↓ifM, ↓andB, ↓orB, ↓notB, ↓andV, ↓orV, ↓notV, ↓asB, ↓do2, ↓chM, ↓consM, ↓consD, ↓consO, ↓tupM, ↓lstM, ↓olstM, ↓frzM, ↓resD, ↓resO, ↓callN, ↓callA, ↓allD, ↓split1, ↓callD, ↓call1, ↓callK, ↓ioAt, ↓putS, ↓finA, ↓defM, ↓un1, ↓un2, ↓truD, ↓isiD, D.kind, CT.is, ↓ltD, ↓leD, ↓gtD, ↓geD, ↓addD, ↓subD, ↓mulD, ↓modD, ↓fdivD, ↓powD, ↓isNonD, ↓notNonD, ↓negD, ↓lenD, ↓absD, ↓DL.intD, ↓max2D, ↓min2D, ↓divD, ↓tupD, ↓hgM, ↓hsM, ↓hcallM, ↓oixM, ↓olist, ↓asL, ↓ixL, ↓olenM, ↓oappM, ↓osetM, ↓opopM, ↓oremM, ↓oinM, ↓oset, ↓asS, ↓oaddM, ↓osinM, ↓otupM, ↓tRgM, ↓lRgM, ↓asgM, ↓setTw, ↓setKs, ↓setTup, ↓setIs, ↓parM, ↓setVs, ↓setV, ↓vD, ↓vO, ↓oins, ↓asI, ↓fsetM, putFD, ↓hallM, hallOf, ↓mkM, ↓DL.forM, ↓itR1, ↓itR2, ↓itLst, ↓itTup, ↓enTup, ↓enLst, ↓partM, ↓slM, ↓asT, ↓tidxM, Option.map, List.map_cons, List.map_nil, List.cons_append, List.nil_append, List.length_cons, List.length_nil, List.replicate, Nat.reduceAdd, Nat.reduceSub, Nat.sub_self, Bool.not_true, Bool.not_false, ↓if_true, ↓if_false, ↓ite_true, ↓ite_false, true_and, and_true, Bool.true_eq_false, Bool.false_eq_true, reduceIte, pick_eq, at3_0, at3_1, at3_2, ix3_0, ix3_1, ix3_2, ↓eqM_ii, ↓eqM_ni, ↓eqM_in, ↓eqM_ss, ↓neM_ii, ↓neM_ss, backE, oldS, ↓loopK_nx, ↓loopK_rt, ↓forL_nil, ↓forL_cons, sl0, sl1, sl2, sl3, sl4, sl5, sl6, sl7, sl8, forall_const, sm0, sm1, sm2, sm3, sm4, sm5, sm6, sm7, sm8, wipeE, ↓compL_n, ↓compL_c, ↓compM_ap, List.filterMap_cons, List.filterMap_nil, ↓odixM, ↓odinM, ↓odic, ↓asDi, ↓DL.keyD, ↓un1O, ↓listO, ↓tryM, ↓sortD, ↓DL.max1D, ↓otupV, ↓backM, ↓dictO, ↓maxTD, ↓oidxM, ↓lenRg, ↓lenR]
  | int b => simp only [↓f_Hall_eq, ↓m_Hall_eq, ↓bnd_ap, ↓ret_ap, ↓ask_ap, ↓fail_ap, ↓ite_ap, ↓dVar, ↓getO, ↓putO, ↓setI, ↓setO, ↓takeO, ↓frzV, getElem?_0, getElem?_s, List.set_cons_zero, List.set_cons_succ, ↓seqM, ↓seqK, ↓thenN, ↓ifM, ↓andB, ↓orB, ↓notB, ↓andV, ↓orV, ↓notV, ↓asB, ↓do2, ↓chM, ↓consM, ↓consD, ↓consO, ↓tupM, ↓lstM, ↓olstM, ↓frzM, ↓resD, ↓resO, ↓callN, ↓callA, ↓allD, ↓split1, ↓callD, ↓call1, ↓callK, ↓ioAt, ↓putS, ↓finA, ↓defM, ↓un1, ↓un2, ↓truD, ↓isiD, D.kind, CT.is, ↓ltD, ↓leD, ↓gtD, ↓geD, ↓addD, ↓subD, ↓mulD, ↓modD, ↓fdivD, ↓powD, ↓isNonD, ↓notNonD, ↓negD, ↓lenD, ↓absD, ↓DL.intD, ↓max2D, ↓min2D, ↓divD, ↓tupD, ↓hgM, ↓hsM, ↓hcallM, ↓oixM, ↓olist, ↓asL, ↓ixL, ↓olenM, ↓oappM, ↓osetM, ↓opopM, ↓oremM, ↓oinM, ↓oset, ↓asS, ↓oaddM, ↓osinM, ↓otupM, ↓tRgM, ↓lRgM, ↓asgM, ↓setTw, ↓setKs, ↓setTup, ↓setIs, ↓parM, ↓setVs, ↓setV, ↓vD, ↓vO, ↓oins, ↓asI, ↓fsetM, putFD, ↓hallM, hallOf, ↓mkM, ↓DL.forM, ↓itR1, ↓itR2, ↓itLst, ↓itTup, ↓enTup, ↓enLst, ↓partM, ↓slM, ↓asT, ↓tidxM, Option.map, List.map_cons, List.map_nil, List.cons_append, List.nil_append, List.length_cons, List.length_nil, List.replicate, Nat.reduceAdd, Nat.reduceSub, Nat.sub_self, Bool.not_true, Bool.not_false, ↓if_true, ↓if_false, ↓ite_true, ↓ite_false, true_and, and_true, Bool.true_eq_false, Bool.false_eq_true, reduceIte, pick_eq, at3_0, at3_1, at3_2, ix3_0, ix3_1, ix3_2, ↓eqM_ii, ↓eqM_ni, ↓eqM_in, ↓eqM_ss, ↓neM_ii, ↓neM_ss, backE, oldS, ↓loopK_nx, ↓loopK_rt, ↓forL_nil, ↓forL_cons, sl0, sl1, sl2, sl3, sl4, sl5, sl6, sl7, sl8, forall_const, sm0, sm1, sm2, sm3, sm4, sm5, sm6, sm7, sm8, wipeE, ↓compL_n, ↓compL_c, ↓compM_ap, List.filterMap_cons, List.filterMap_nil, ↓odixM, ↓odinM, ↓odic, ↓asDi, ↓DL.keyD, ↓un1O, ↓listO, ↓tryM, ↓sortD, ↓DL.max1D, ↓otupV, ↓backM, ↓dictO, ↓maxTD, ↓oidxM, ↓lenRg, ↓lenR]
  | str b => simp only [↓f_Hall_eq, ↓m_Hall_eq, ↓bnd_ap, ↓ret_ap, ↓ask_ap, ↓fail_ap, ↓ite_ap, ↓dVar, ↓getO, ↓putO, ↓setI, ↓setO, ↓takeO, ↓frzV, getElem?_0, getElem?_s, List.set_cons_zero, List.set_cons_succ, ↓seqM, ↓seqK, ↓thenN, ↓ifM, ↓andB, ↓orB, ↓notB, ↓andV, ↓orV, ↓notV, ↓asB, ↓do2, ↓chM, ↓consM, ↓consD, ↓consO, ↓tupM, ↓lstM, ↓olstM, ↓frzM, ↓resD, ↓resO, ↓callN, ↓callA, ↓allD, ↓split1, ↓callD, ↓call1, ↓callK, ↓ioAt, ↓putS, ↓finA, ↓defM, ↓un1, ↓un2, ↓truD, ↓isiD, D.kind, CT.is, ↓ltD, ↓leD, ↓gtD, ↓geD, ↓addD, ↓subD, ↓mulD, ↓modD, ↓fdivD, ↓powD, ↓isNonD, ↓notNonD, ↓negD, ↓lenD, ↓absD, ↓DL.intD, ↓max2D, ↓min2D, ↓divD, ↓tupD, ↓hgM, ↓hsM, ↓hcallM, ↓oixM, ↓olist, ↓asL, ↓ixL, ↓olenM, ↓oappM, ↓osetM, ↓opopM, ↓oremM, ↓oinM, ↓oset, ↓asS, ↓oaddM, ↓osinM, ↓otupM, ↓tRgM, ↓lRgM, ↓asgM, ↓setTw, ↓setKs, ↓setTup, ↓setIs, ↓parM, ↓setVs, ↓setV, ↓vD, ↓vO, ↓oins, ↓asI, ↓fsetM, putFD, ↓hallM, hallOf, ↓mkM, ↓DL.forM, ↓itR1, ↓itR2, ↓itLst, ↓itTup, ↓enTup, ↓enLst, ↓partM, ↓slM, ↓asT, ↓tidxM, Option.map, List.map_cons, List.map_nil, List.cons_append, List.nil_append, List.length_cons, List.length_nil, List.replicate, Nat.reduceAdd, Nat.reduceSub, Nat.sub_self, Bool.not_true, Bool.not_false, ↓if_true, ↓if_false, ↓ite_true, ↓ite_false, true_and, and_true, Bool.true_eq_false, Bool.false_eq_true, reduceIte, pick_eq, at3_0, at3_1, at3_2, ix3_0, ix3_1, ix3_2, ↓eqM_ii, ↓eqM_ni, ↓eqM_in, ↓eqM_ss, ↓neM_ii, ↓neM_ss, backE, oldS, ↓loopK_nx, ↓loopK_rt, ↓forL_nil, ↓forL_cons, sl0, sl1, sl2, sl3, sl4, sl5, sl6, sl7, sl8, forall_const, sm0, sm1, sm2, sm3, sm4, sm5, sm6, sm7, sm8, wipeE, ↓compL_n, ↓compL_c, ↓compM_ap, List.filterMap_cons, List.filterMap_nil, ↓odixM, ↓odinM, ↓odic, ↓asDi, ↓DL.keyD, ↓un1O, ↓listO, ↓tryM, ↓sortD, ↓DL.max1D, ↓otupV, ↓backM, ↓dictO, ↓maxTD, ↓oidxM, ↓lenRg, ↓lenR]
  | tup b => simp only [↓f_Hall_eq, ↓m_Hall_eq, ↓bnd_ap, ↓ret_ap, ↓ask_ap, ↓fail_ap, ↓ite_ap, ↓dVar, ↓getO, ↓putO, ↓setI, ↓setO, ↓takeO, ↓frzV, getElem?_0, getElem?_s, List.set_cons_zero, List.set_cons_succ, ↓seqM, ↓seqK, ↓thenN, ↓ifM, ↓andB, ↓orB, ↓notB, ↓andV, ↓orV, ↓notV, ↓asB, ↓do2, ↓chM, ↓consM, ↓consD, ↓consO, ↓tupM, ↓lstM, ↓olstM, ↓frzM, ↓resD, ↓resO, ↓callN, ↓callA, ↓allD, ↓split1, ↓callD, ↓call1, ↓callK, ↓ioAt, ↓putS, ↓finA, ↓defM, ↓un1, ↓un2, ↓truD, ↓isiD, D.kind, CT.is, ↓ltD, ↓leD, ↓gtD, ↓geD, ↓addD, ↓subD, ↓mulD, ↓modD, ↓fdivD, ↓powD, ↓isNonD, ↓notNonD, ↓negD, ↓lenD, ↓absD, ↓DL.intD, ↓max2D, ↓min2D, ↓divD, ↓tupD, ↓hgM, ↓hsM, ↓hcallM, ↓oixM, ↓olist, ↓asL, ↓ixL, ↓olenM, ↓oappM, ↓osetM, ↓opopM, ↓oremM, ↓oinM, ↓oset, ↓asS, ↓oaddM, ↓osinM, ↓otupM, ↓tRgM, ↓lRgM, ↓asgM, ↓setTw, ↓setKs, ↓setTup, ↓setIs, ↓parM, ↓setVs, ↓setV, ↓vD, ↓vO, ↓oins, ↓asI, ↓fsetM, putFD, ↓hallM, hallOf, ↓mkM, ↓DL.forM, ↓itR1, ↓itR2, ↓itLst, ↓itTup, ↓enTup, ↓enLst, ↓partM, ↓slM, ↓asT, ↓tidxM, Option.map, List.map_cons, List.map_nil, List.cons_append, List.nil_append, List.length_cons, List.length_nil, List.replicate, Nat.reduceAdd, Nat.reduceSub, Nat.sub_self, Bool.not_true, Bool.not_false, ↓if_true, ↓if_false, ↓ite_true, ↓ite_false, true_and, and_true, Bool.true_eq_false, Bool.false_eq_true, reduceIte, pick_eq, at3_0, at3_1, at3_2, ix3_0, ix3_1, ix3_2, ↓eqM_ii, ↓eqM_ni, ↓eqM_in, ↓eqM_ss, ↓neM_ii, ↓neM_ss, backE, oldS, ↓loopK_nx, ↓loopK_rt, ↓forL_nil, ↓forL_cons, sl0, sl1, sl2, sl3, sl4, sl5, sl6, sl7, sl8, forall_const, sm0, sm1, sm2, sm3, sm4, sm5, sm6, sm7, sm8, wipeE, ↓compL_n, ↓compL_c, ↓compM_ap, List.filterMap_cons, List.filterMap_nil, ↓odixM, ↓odinM, ↓odic, ↓asDi, ↓DL.keyD, ↓un1O, ↓listO, ↓tryM, ↓sortD, ↓DL.max1D, ↓otupV, ↓backM, ↓dictO, ↓maxTD, ↓oidxM, ↓lenRg, ↓lenR]
  | lst b => simp only [↓f_Hall_eq, ↓m_Hall_eq, ↓bnd_ap, ↓ret_ap, ↓ask_ap, ↓fail_ap, ↓ite_ap, ↓dVar, ↓getO, ↓putO, ↓setI, ↓setO, ↓takeO, ↓frzV, getElem?_0, getElem?_s, List.set_cons_zero, List.set_cons_succ, ↓seqM, ↓seqK, ↓thenN, ↓ifM, ↓andB, ↓orB, ↓notB, ↓andV, ↓orV, ↓notV, ↓asB, ↓do2, ↓chM, ↓consM, ↓consD, ↓consO, ↓tupM, ↓lstM, ↓olstM, ↓frzM, ↓resD, ↓resO, ↓callN, ↓callA, ↓allD, ↓split1, ↓callD, ↓call1, ↓callK, ↓ioAt, ↓putS, ↓finA, ↓defM, ↓un1, ↓un2, ↓truD, ↓isiD, D.kind, CT.is, ↓ltD, ↓leD, ↓gtD, ↓geD, ↓addD, ↓subD, ↓mulD, ↓modD, ↓fdivD, ↓powD, ↓isNonD, ↓notNonD, ↓negD, ↓lenD, ↓absD, ↓DL.intD, ↓max2D, ↓min2D, ↓divD, ↓tupD, ↓hgM, ↓hsM, ↓hcallM, ↓oixM, ↓olist, ↓asL, ↓ixL, ↓olenM, ↓oappM, ↓osetM, ↓opopM, ↓oremM, ↓oinM, ↓oset, ↓asS, ↓oaddM, ↓osinM, ↓otupM, ↓tRgM, ↓lRgM, ↓asgM, ↓setTw, ↓setKs, ↓setTup, ↓setIs, ↓parM, ↓setVs, ↓setV, ↓vD, ↓vO, ↓oins, ↓asI, ↓fsetM, putFD, ↓hallM, hallOf, ↓mkM, ↓DL.forM, ↓itR1, ↓itR2, ↓itLst, ↓itTup, ↓enTup, ↓enLst, ↓partM, ↓slM, ↓asT, ↓tidxM, Option.map, List.map_cons, List.map_nil, List.cons_append, List.nil_append, List.length_cons, List.length_nil, List.replicate, Nat.reduceAdd, Nat.reduceSub, Nat.sub_self, Bool.not_true, Bool.not_false, ↓if_true, ↓if_false, ↓ite_true, ↓ite_false, true_and, and_true, Bool.true_eq_false, Bool.false_eq_true, reduceIte, pick_eq, at3_0, at3_1, at3_2, ix3_0, ix3_1, ix3_2, ↓eqM_ii, ↓eqM_ni, ↓eqM_in, ↓eqM_ss, ↓neM_ii, ↓neM_ss, backE, oldS, ↓loopK_nx, ↓loopK_rt, ↓forL_nil, ↓forL_cons, sl0, sl1, sl2, sl3, sl4, sl5, sl6, sl7, sl8, forall_const, sm0, sm1, sm2, sm3, sm4, sm5, sm6, sm7, sm8, wipeE, ↓compL_n, ↓compL_c, ↓compM_ap, List.filterMap_cons, List.filterMap_nil, ↓odixM, ↓odinM, ↓odic, ↓asDi, ↓DL.keyD, ↓un1O, ↓listO, ↓tryM, ↓sortD, ↓DL.max1D, ↓otupV, ↓backM, ↓dictO, ↓maxTD, ↓oidxM, ↓lenRg, ↓lenR]
  | emp => simp only [↓f_Hall_eq, ↓m_Hall_eq, ↓bnd_ap, ↓ret_ap, ↓ask_ap, ↓fail_ap, ↓ite_ap, ↓dVar, ↓getO, ↓putO, ↓setI, ↓setO, ↓takeO, ↓frzV, getElem?_0, getElem?_s, List.set_cons_zero, List.set_cons_succ, ↓seqM, ↓seqK, ↓thenN, ↓ifM, ↓andB, ↓orB, ↓notB, ↓andV, ↓orV, ↓notV, ↓asB, ↓do2, ↓chM, ↓consM, ↓consD, ↓consO, ↓tupM, ↓lstM, ↓olstM, ↓frzM, ↓resD, ↓resO, ↓callN, ↓callA, ↓allD, ↓split1, ↓callD, ↓call1, ↓callK, ↓ioAt, ↓putS, ↓finA, ↓defM, ↓un1, ↓un2, ↓truD, ↓isiD, D.kind, CT.is, ↓ltD, ↓leD, ↓gtD, ↓geD, ↓addD, ↓subD, ↓mulD, ↓modD, ↓fdivD, ↓powD, ↓isNonD, ↓notNonD, ↓negD, ↓lenD, ↓absD, ↓DL.intD, ↓max2D, ↓min2D, ↓divD, ↓tupD, ↓hgM, ↓hsM, ↓hcallM, ↓oixM, ↓olist, ↓asL, ↓ixL, ↓olenM, ↓oappM, ↓osetM, ↓opopM, ↓oremM, ↓oinM, ↓oset, ↓asS, ↓oaddM, ↓osinM, ↓otupM, ↓tRgM, ↓lRgM, ↓asgM, ↓setTw, ↓setKs, ↓setTup, ↓setIs, ↓parM, ↓setVs, ↓setV, ↓vD, ↓vO, ↓oins, ↓asI, ↓fsetM, putFD, ↓hallM, hallOf, ↓mkM, ↓DL.forM, ↓itR1, ↓itR2, ↓itLst, ↓itTup, ↓enTup, ↓enLst, ↓partM, ↓slM, ↓asT, ↓tidxM, Option.map, List.map_cons, List.map_nil, List.cons_append, List.nil_append, List.length_cons, List.length_nil, List.replicate, Nat.reduceAdd, Nat.reduceSub, Nat.sub_self, Bool.not_true, Bool.not_false, ↓if_true, ↓if_false, ↓ite_true, ↓ite_false, true_and, and_true, Bool.true_eq_false, Bool.false_eq_true, reduceIte, pick_eq, at3_0, at3_1, at3_2, ix3_0, ix3_1, ix3_2, ↓eqM_ii, ↓eqM_ni, ↓eqM_in, ↓eqM_ss, ↓neM_ii, ↓neM_ss, backE, oldS, ↓loopK_nx, ↓loopK_rt, ↓forL_nil, ↓forL_cons, sl0, sl1, sl2, sl3, sl4, sl5, sl6, sl7, sl8, forall_const, sm0, sm1, sm2, sm3, sm4, sm5, sm6, sm7, sm8, wipeE, ↓compL_n, ↓compL_c, ↓compM_ap, List.filterMap_cons, List.filterMap_nil, ↓odixM, ↓odinM, ↓odic, ↓asDi, ↓DL.keyD, ↓un1O, ↓listO, ↓tryM, ↓sortD, ↓DL.max1D, ↓otupV, ↓backM, ↓dictO, ↓maxTD, ↓oidxM, ↓lenRg, ↓lenR]
  | _ => cases h
/-! ### == and != with Halls -/
theorem callD_ap (f : DF) (ds : List D) (env : List DL.Slot) (Q E) : callD f ds env Q E = f (ds.map .im) (fun r _ => Q r env) (fun x _ => E x env) := rfl
theorem heq_hh (C : Addr) (neg : Bool) (g s g' s' : Int) (env : List DL.Slot) (Q E) : heqM (f_Hall_eq C) neg (.hall g s) (.hall g' s') env Q E = Q (.bl (if neg = true then !decide (g = g' ∧ s = s') else decide (g = g' ∧ s = s'))) env := by
  show bnd (callD (f_Hall_eq C) [.hall g s, .hall g' s']) (boolR neg) env Q E = _
  show f_Hall_eq C [.im (.hall g s), .im (.hall g' s')] _ _ = _
  rw [p_heq C]
  rfl
theorem heq_hd (C : Addr) (neg : Bool) (g s : Int) (d : D) (h : sideOk d = true) (env : List DL.Slot) (Q E) : heqM (f_Hall_eq C) neg (.hall g s) d env Q E = Q (.bl neg) env := by
  have e : heqM (f_Hall_eq C) neg (.hall g s) d = ask (sideOk d = true) (bnd (callD (f_Hall_eq C) [.hall g s, d]) (boolR neg)) := by cases d <;> first | rfl | cases h
  rw [e]
  have k : bnd (callD (f_Hall_eq C) [.hall g s, d]) (boolR neg) env Q E = Q (.bl neg) env := by
    show f_Hall_eq C [.im (.hall g s), .im d] _ _ = _
    rw [p_heq_no C g s d h]
    cases neg <;> rfl
  exact propext ⟨fun z => k ▸ z.2, fun z => ⟨h, k ▸ z⟩⟩
theorem heq_dh (C : Addr) (neg : Bool) (g s : Int) (d : D) (h : sideOk d = true) (env : List DL.Slot) (Q E) : heqM (f_Hall_eq C) neg d (.hall g s) env Q E = Q (.bl neg) env := by
  have e : heqM (f_Hall_eq C) neg d (.hall g s) = ask (sideOk d = true) (bnd (callD (f_Hall_eq C) [.hall g s, d]) (boolR neg)) := by cases d <;> first | rfl | cases h
  rw [e]
  have k : bnd (callD (f_Hall_eq C) [.hall g s, d]) (boolR neg) env Q E = Q (.bl neg) env := by
    show f_Hall_eq C [.im (.hall g s), .im d] _ _ = _
    rw [p_heq_no C g s d h]
    cases neg <;> rfl
  exact propext ⟨fun z => k ▸ z.2, fun z => ⟨h, k ▸ z⟩⟩
theorem hin_ap (C : Addr) (g s g' s' : Int) (env : List DL.Slot) (Q E) : hinM (f_Hall_eq C) (.hall g s) (.lst [.hall g' s']) env Q E = Q (.bl (decide (g' = g ∧ s' = s))) env := propext ⟨fun z => z.2, fun z => ⟨p_heq C, z⟩⟩
/-! ### texts -/
theorem txt_eq : ∀ g : Fin 25, ∀ s : Fin 7, (hallT g.val s.val == (((toString (g.val : Int) : String) : Str) ++ ("+" : Str)) ++ ((toString (s.val : Int) : String) : Str)) = true ∧
    (hallRt g.val s.val == (((("Hall(" : Str) ++ ((toString (g.val : Int) : String) : Str)) ++ (", spare=" : Str)) ++ ((toString (s.val : Int) : String) : Str)) ++ (")" : Str)) = true ∧
    ((toString (g.val : Int) : String) : Str).length ≤ 5 ∧ ((toString (s.val : Int) : String) : Str).length ≤ 5 := by decide +kernel
theorem ShP.ints {l : List Int} (h : ∀ i ∈ l, 0 ≤ i ∧ i < 64) (z : l.length ≤ 100) : ShP (.lst (l.map .int)) 1 100 := (ShP.lst (n := 0) (b := 0) fun x hx => by obtain ⟨i, hi, rfl⟩ := List.mem_map.mp hx; exact shP_int (h i hi)).mono (by decide) (by rw [List.length_map]; omega)
theorem p_one (C : Addr) (g s : Int) (hg : 1 ≤ g ∧ g ≤ 24) (hs : 0 ≤ s ∧ s ≤ 6) (Q E) : f_Lone_right C [.im (.int g), .im (.int s)] Q E = Q (.d (.bl true)) [.im (.int g), .im (.int s)] := by
  have pi := fun x => p_init C x g s hg hs
  have pi0 := fun x => p_init C x g 0 hg (by decide)
  have pl := p_hlen C g s hg
  have ps := p_seats C g s
  have pt := p_hstr C g s hg hs
  have pr := p_hrepr C g s hg hs
  have l1 := small_log (n := g) (by omega)
  have l2 := small_log (n := s) (by omega)
  have z := txt_eq ⟨g.toNat, by omega⟩ ⟨s.toNat, by omega⟩
  have e1 : ((g.toNat : Nat) : Int) = g := by omega
  have e2 : ((s.toNat : Nat) : Int) = s := by omega
  simp only [e1, e2] at z
  obtain ⟨z1, z2, z3, z4⟩ := z
  have sh := fun env Q E => (ShP.ints (l := [g, s, g + s, g]) (fun i hi => by
    simp only [List.mem_cons, List.not_mem_nil, or_false] at hi
    rcases hi with e | e | e | e <;> subst e <;> omega) (by show 4 ≤ 100; decide)).rep rfl (by decide) (by decide) env Q E
  simp only [List.map_cons, List.map_nil] at sh
  have lg : 0 ≤ g ∧ g < 2 ^ 63 := by omega
  have tg : (g != 0) = true := by simp; omega
  have y : ∀ a b : Nat, a ≤ 20 → b ≤ 20 → (a + b ≤ sizeLine) = True := fun a b ha hb => eq_true (by rw [sizeLine_eq]; omega)
  have ee : ∀ t : Str, (t == t) = true := fun t => beq_self_eq_true _
  have sa := fun (a b : Str) => strLen_append a b
  have q1 : (((toString g : String) : Str).length + ("+" : Str).length ≤ sizeLine) = True := y _ _ (by omega) (by decide)
  have q2 : ((((toString g : String) : Str) ++ ("+" : Str)).length + ((toString s : String) : Str).length ≤ sizeLine) = True := y _ _ (by rw [sa]; have : ("+" : Str).length = 1 := rfl; omega) (by omega)
  have q3 : (("Hall(" : Str).length + ((toString g : String) : Str).length ≤ sizeLine) = True := y _ _ (by decide) (by omega)
  have k5 : ("Hall(" : Str).length = 5 := rfl
  have k8 : (", spare=" : Str).length = 8 := rfl
  have k1 : (")" : Str).length = 1 := rfl
  have q4 : ((("Hall(" : Str) ++ ((toString g : String) : Str)).length + (", spare=" : Str).length ≤ sizeLine) = True := y _ _ (by rw [sa]; omega) (by decide)
  have q5 : (((("Hall(" : Str) ++ ((toString g : String) : Str)) ++ (", spare=" : Str)).length + ((toString s : String) : Str).length ≤ sizeLine) = True := y _ _ (by rw [sa, sa]; omega) (by omega)
  have q6 : ((((("Hall(" : Str) ++ ((toString g : String) : Str)) ++ (", spare=" : Str)) ++ ((toString s : String) : Str)).length + (")" : Str).length ≤ sizeLine) = True := eq_true (by rw [sa, sa, sa, sizeLine_eq]; omega)
  have h1 : ∀ env Q E, heqM (f_Hall_eq C) false (.hall g s) (.hall g s) env Q E = Q (.bl true) env := fun env Q E => by rw [heq_hh, decide_eq_true ⟨rfl, rfl⟩]; rfl
  have h2 : ∀ env Q E, heqM (f_Hall_eq C) true (.hall g s) (.hall g s) env Q E = Q (.bl false) env := fun env Q E => by rw [heq_hh, decide_eq_true ⟨rfl, rfl⟩]; rfl
  by_cases s0 : s = 0
  · subst s0
    have d0 : decide ((0 : Int) < 0) = false := rfl
    have d1 : ((0 : Int) == 0) = true := rfl
    simp only [↓f_Lone_right, ↓m_Lone_right, ↓pi, ↓pl, ↓ps, ↓pt, ↓reprX, ↓callD_ap, ↓pr, ↓strR, ↓lenR, txtD, l1, l2, ↓sh, lg, tg, z1, z2, ee, q1, q2, q3, q4, q5, q6, ↓h1, ↓h2, d0, d1, ↓bnd_ap, ↓ret_ap, ↓ask_ap, ↓fail_ap, ↓ite_ap, ↓dVar, ↓getO, ↓putO, ↓setI, ↓setO, ↓takeO, ↓frzV, getElem?_0, getElem?_s, List.set_cons_zero, List.set_cons_succ, ↓seqM, ↓seqK, ↓thenN, ↓ifM, ↓andB, ↓orB, ↓notB, ↓andV, ↓orV, ↓notV, ↓asB, ↓do2, ↓chM, ↓consM, ↓consD, ↓consO, ↓tupM, ↓lstM, ↓olstM, ↓frzM, ↓resD, ↓resO, ↓callN, ↓callA, ↓allD, ↓split1, ↓callD, ↓call1, ↓callK, ↓ioAt, ↓putS, ↓finA, ↓defM, ↓un1, ↓un2, ↓truD, ↓isiD, D.kind, CT.is, ↓ltD, ↓leD, ↓gtD, ↓geD, ↓addD, ↓subD, ↓mulD, ↓modD, ↓fdivD, ↓powD, ↓isNonD, ↓notNonD, ↓negD, ↓lenD, ↓absD, ↓DL.intD, ↓max2D, ↓min2D, ↓divD, ↓tupD, ↓hgM, ↓hsM, ↓hcallM, ↓oixM, ↓olist, ↓asL, ↓ixL, ↓olenM, ↓oappM, ↓osetM, ↓opopM, ↓oremM, ↓oinM, ↓oset, ↓asS, ↓oaddM, ↓osinM, ↓otupM, ↓tRgM, ↓lRgM, ↓asgM, ↓setTw, ↓setKs, ↓setTup, ↓setIs, ↓parM, ↓setVs, ↓setV, ↓vD, ↓vO, ↓oins, ↓asI, ↓fsetM, putFD, ↓hallM, hallOf, ↓mkM, ↓DL.forM, ↓itR1, ↓itR2, ↓itLst, ↓itTup, ↓enTup, ↓enLst, ↓partM, ↓slM, ↓asT, ↓tidxM, Option.map, List.map_cons, List.map_nil, List.cons_append, List.nil_append, List.length_cons, List.length_nil, List.replicate, Nat.reduceAdd, Nat.reduceSub, Nat.sub_self, Bool.not_true, Bool.not_false, ↓if_true, ↓if_false, ↓ite_true, ↓ite_false, true_and, and_true, Bool.true_eq_false, Bool.false_eq_true, reduceIte, pick_eq, at3_0, at3_1, at3_2, ix3_0, ix3_1, ix3_2, ↓eqM_ii, ↓eqM_ni, ↓eqM_in, ↓eqM_ss, ↓neM_ii, ↓neM_ss, backE, oldS, ↓loopK_nx, ↓loopK_rt, ↓forL_nil, ↓forL_cons, sl0, sl1, sl2, sl3, sl4, sl5, sl6, sl7, sl8, forall_const, sm0, sm1, sm2, sm3, sm4, sm5, sm6, sm7, sm8, wipeE, ↓compL_n, ↓compL_c, ↓compM_ap, List.filterMap_cons, List.filterMap_nil, ↓odixM, ↓odinM, ↓odic, ↓asDi, ↓DL.keyD, ↓un1O, ↓listO, ↓tryM, ↓sortD, ↓DL.max1D, ↓otupV, ↓backM, ↓dictO, ↓maxTD, ↓oidxM, ↓lenRg, ↓lenR]
  · have d0 : decide ((0 : Int) < s) = true := decide_eq_true (by omega)
    simp only [↓f_Lone_right, ↓m_Lone_right, ↓pi, ↓pi0, ↓pl, ↓ps, ↓pt, ↓reprX, ↓callD_ap, ↓pr, ↓strR, ↓lenR, txtD, l1, l2, ↓sh, lg, tg, z1, z2, ee, q1, q2, q3, q4, q5, q6, ↓h1, ↓h2, d0, ↓bnd_ap, ↓ret_ap, ↓ask_ap, ↓fail_ap, ↓ite_ap, ↓dVar, ↓getO, ↓putO, ↓setI, ↓setO, ↓takeO, ↓frzV, getElem?_0, getElem?_s, List.set_cons_zero, List.set_cons_succ, ↓seqM, ↓seqK, ↓thenN, ↓ifM, ↓andB, ↓orB, ↓notB, ↓andV, ↓orV, ↓notV, ↓asB, ↓do2, ↓chM, ↓consM, ↓consD, ↓consO, ↓tupM, ↓lstM, ↓olstM, ↓frzM, ↓resD, ↓resO, ↓callN, ↓callA, ↓allD, ↓split1, ↓callD, ↓call1, ↓callK, ↓ioAt, ↓putS, ↓finA, ↓defM, ↓un1, ↓un2, ↓truD, ↓isiD, D.kind, CT.is, ↓ltD, ↓leD, ↓gtD, ↓geD, ↓addD, ↓subD, ↓mulD, ↓modD, ↓fdivD, ↓powD, ↓isNonD, ↓notNonD, ↓negD, ↓lenD, ↓absD, ↓DL.intD, ↓max2D, ↓min2D, ↓divD, ↓tupD, ↓hgM, ↓hsM, ↓hcallM, ↓oixM, ↓olist, ↓asL, ↓ixL, ↓olenM, ↓oappM, ↓osetM, ↓opopM, ↓oremM, ↓oinM, ↓oset, ↓asS, ↓oaddM, ↓osinM, ↓otupM, ↓tRgM, ↓lRgM, ↓asgM, ↓setTw, ↓setKs, ↓setTup, ↓setIs, ↓parM, ↓setVs, ↓setV, ↓vD, ↓vO, ↓oins, ↓asI, ↓fsetM, putFD, ↓hallM, hallOf, ↓mkM, ↓DL.forM, ↓itR1, ↓itR2, ↓itLst, ↓itTup, ↓enTup, ↓enLst, ↓partM, ↓slM, ↓asT, ↓tidxM, Option.map, List.map_cons, List.map_nil, List.cons_append, List.nil_append, List.length_cons, List.length_nil, List.replicate, Nat.reduceAdd, Nat.reduceSub, Nat.sub_self, Bool.not_true, Bool.not_false, ↓if_true, ↓if_false, ↓ite_true, ↓ite_false, true_and, and_true, Bool.true_eq_false, Bool.false_eq_true, reduceIte, pick_eq, at3_0, at3_1, at3_2, ix3_0, ix3_1, ix3_2, ↓eqM_ii, ↓eqM_ni, ↓eqM_in, ↓eqM_ss, ↓neM_ii, ↓neM_ss, backE, oldS, ↓loopK_nx, ↓loopK_rt, ↓forL_nil, ↓forL_cons, sl0, sl1, sl2, sl3, sl4, sl5, sl6, sl7, sl8, forall_const, sm0, sm1, sm2, sm3, sm4, sm5, sm6, sm7, sm8, wipeE, ↓compL_n, ↓compL_c, ↓compM_ap, List.filterMap_cons, List.filterMap_nil, ↓odixM, ↓odinM, ↓odic, ↓asDi, ↓DL.keyD, ↓un1O, ↓listO, ↓tryM, ↓sortD, ↓DL.max1D, ↓otupV, ↓backM, ↓dictO, ↓maxTD, ↓oidxM, ↓lenRg, ↓lenR]
end DLP

set_option Elab.async false
set_option linter.all false
set_option maxRecDepth 100000
set_option maxHeartbeats 4000000
namespace DLP
open PySem PySem.Spec PyProof.Rows L2 DL MW
/-! ### two drawn Halls -/
def tw1 (C : Addr) : M DL.Fl := parM [1, 2] (vD (bnd (bnd (consO 0 (consD (DL.ret (.int 6)) (DL.ret []))) (callN 2 (f_Lsizes C))) resD) (vD (bnd (bnd (consO 0 (consD (DL.ret (.int 6)) (DL.ret []))) (callN 2 (f_Lsizes C))) resD) (DL.ret [])))
def tw2 (C : Addr) : M DL.Fl := asgM (tupM (consM (bnd (bnd (consM (do2 (dVar 1) (DL.ret (.int 0)) ixM) (DL.ret [])) fun ds => bnd (consM (do2 (dVar 1) (DL.ret (.int 1)) ixM) (DL.ret [])) fun es => mkM C 1 1 (pick [0, 1]) (f_Hall_init C) ds es) (hallM C)) (consM (bnd (bnd (consM (do2 (dVar 2) (DL.ret (.int 0)) ixM) (DL.ret [])) fun ds => bnd (consM (do2 (dVar 2) (DL.ret (.int 1)) ixM) (DL.ret [])) fun es => mkM C 1 1 (pick [0, 1]) (f_Hall_init C) ds es) (hallM C)) (DL.ret [])))) (setTw [setI 3, setI 4])
def tw3 (C : Addr) : M DL.Fl := thenN (bnd (do2 (dVar 1) (dVar 2) eqM) (setI 5))
def tw4 (C : Addr) : M DL.Fl := ifM (do2 (bnd (consM (lstM (consM (do2 (dVar 3) (dVar 4) (heqM (f_Hall_eq C) false)) (consM (do2 (dVar 4) (dVar 3) (heqM (f_Hall_eq C) false)) (consM (do2 (dVar 3) (lstM (consM (dVar 4) (DL.ret []))) (hinM (f_Hall_eq C))) (consM (notV (do2 (dVar 3) (dVar 4) (heqM (f_Hall_eq C) true))) (DL.ret [])))))) (DL.ret [])) (un1 reprE)) (bnd (consM (do2 (lstM (consM (dVar 5) (DL.ret []))) (DL.ret (.int 4)) mulD) (DL.ret [])) (un1 reprE)) fun x y => bnd (neM x y) asB) (bnd (DL.ret (.bl false)) fun d => DL.ret (.rt (.d d))) (DL.ret .nx)
def tw5 (C : Addr) : M DL.Fl := thenN (bnd (olstM (consM (bnd (bnd (consM (do2 (DL.ret (.int 1)) (do2 (bnd (consM (do2 (dVar 1) (DL.ret (.int 0)) ixM) (DL.ret [])) (un1 intD)) (DL.ret (.int 24)) modD) addD) (DL.ret [])) fun ds => bnd (consM (do2 (dVar 1) (DL.ret (.int 1)) ixM) (DL.ret [])) fun es => mkM C 1 1 (pick [0, 1]) (f_Hall_init C) ds es) (hallM C)) (consM (bnd (bnd (consM (do2 (dVar 1) (DL.ret (.int 0)) ixM) (DL.ret [])) fun ds => bnd (consM (do2 (bnd (consM (do2 (do2 (dVar 1) (DL.ret (.int 1)) ixM) (DL.ret (.int 1)) addD) (DL.ret [])) (un1 intD)) (DL.ret (.int 7)) modD) (DL.ret [])) fun es => mkM C 1 1 (pick [0, 1]) (f_Hall_init C) ds es) (hallM C)) (DL.ret [])))) (setO 6))
def tw6 (C : Addr) : M DL.Fl := ifM (andB (do2 (do2 (dVar 1) (DL.ret (.int 0)) ixM) (DL.ret (.int 24)) fun x y => bnd (ltD x y) asB) (do2 (do2 (dVar 1) (DL.ret (.int 1)) ixM) (DL.ret (.int 0)) fun x y => bnd (gtD x y) asB)) (thenN (oappM 6 (bnd (bnd (consM (do2 (do2 (dVar 1) (DL.ret (.int 0)) ixM) (DL.ret (.int 1)) addD) (DL.ret [])) fun ds => bnd (consM (do2 (do2 (dVar 1) (DL.ret (.int 1)) ixM) (DL.ret (.int 1)) subD) (DL.ret [])) fun es => mkM C 1 1 (pick [0, 1]) (f_Hall_init C) ds es) (hallM C)))) (DL.ret .nx)
def tw7 (C : Addr) : M DL.Fl := ifM (andB (do2 (do2 (dVar 1) (DL.ret (.int 0)) ixM) (DL.ret (.int 1)) fun x y => bnd (gtD x y) asB) (do2 (do2 (dVar 1) (DL.ret (.int 1)) ixM) (DL.ret (.int 6)) fun x y => bnd (ltD x y) asB)) (thenN (oappM 6 (bnd (bnd (consM (do2 (do2 (dVar 1) (DL.ret (.int 0)) ixM) (DL.ret (.int 1)) subD) (DL.ret [])) fun ds => bnd (consM (do2 (do2 (dVar 1) (DL.ret (.int 1)) ixM) (DL.ret (.int 1)) addD) (DL.ret [])) fun es => mkM C 1 1 (pick [0, 1]) (f_Hall_init C) ds es) (hallM C)))) (DL.ret .nx)
def tw8 (C : Addr) : M DL.Fl := ifM (orB (bnd (bnd (consM (frzM (c_Ltwo_right_1 C)) (DL.ret [])) (un1 anyM)) truD) (notB (bnd (bnd (consM (frzM (c_Ltwo_right_2 C)) (DL.ret [])) (un1 allM)) truD))) (bnd (DL.ret (.bl false)) fun d => DL.ret (.rt (.d d))) (DL.ret .nx)
def tw9 (C : Addr) : M DL.Fl := thenN (bnd (lstM (consM (DL.ret .non) (consM (DL.ret (.bl true)) (consM (do2 (dVar 1) (DL.ret (.int 0)) ixM) (consM (dVar 1) (consM (bnd (bnd (dVar 3) (hcallM (f_Hall_str C))) strR) (consM (bnd (dVar 3) (reprX (f_Hall_repr C))) (consM (lstM (consM (dVar 3) (DL.ret []))) (consM (tupM (consM (dVar 3) (DL.ret []))) (consM (DL.ret .emp) (consM (bnd (consM (dVar 1) (DL.ret [])) (un1 listD)) (consM (tupM (DL.ret [])) (consM (tupM (consM (lstM (DL.ret [])) (DL.ret []))) (consM (do2 (DL.ret (.int 10)) (DL.ret (.int 30)) powD) (DL.ret []))))))))))))))) (setI 7))
def tw10 (C : Addr) : M DL.Fl := ifM (orB (bnd (bnd (consM (frzM (c_Ltwo_right_3 C)) (DL.ret [])) (un1 anyM)) truD) (notB (bnd (bnd (consM (frzM (c_Ltwo_right_4 C)) (DL.ret [])) (un1 allM)) truD))) (bnd (DL.ret (.bl false)) fun d => DL.ret (.rt (.d d))) (DL.ret .nx)
def tw11 (C : Addr) : M DL.Fl := bnd (andV (notV (bnd (consM (frzM (c_Ltwo_right_5 C)) (DL.ret [])) (un1 anyM))) (bnd (consM (frzM (c_Ltwo_right_6 C)) (DL.ret [])) (un1 allM))) fun d => DL.ret (.rt (.d d))
theorem tweq (C : Addr) : m_Ltwo_right C = seqM (tw1 C) (seqM (tw2 C) (seqM (tw3 C) (seqM (tw4 C) (seqM (tw5 C) (seqM (tw6 C) (seqM (tw7 C) (seqM (tw8 C) (seqM (tw9 C) (seqM (tw10 C) (tw11 C)))))))))) := rfl
theorem bools_map {α : Type} (f : α → Bool) : ∀ l : List α, boolsOf (l.map fun x => D.bl (f x)) = some (l.map f)
  | [] => rfl
  | a :: l => by rw [List.map_cons]; show (boolsOf (l.map fun x => D.bl (f x))).map (f a :: ·) = _; rw [bools_map f l]; rfl
theorem any_no {α : Type} (l : List α) (env : List DL.Slot) (Q E) : anyM (.lst (l.map fun _ => D.bl false)) env Q E = Q (.bl false) env := by
  unfold anyM
  simp only [bools_map fun _ => false]
  show Q (.bl ((l.map fun _ => false).any id)) env = _
  rw [show (l.map fun _ => false).any id = false by simp]
theorem all_yes {α : Type} (l : List α) (env : List DL.Slot) (Q E) : allM (.lst (l.map fun _ => D.bl true)) env Q E = Q (.bl true) env := by
  unfold allM
  simp only [bools_map fun _ => true]
  show Q (.bl ((l.map fun _ => true).all id)) env = _
  rw [show (l.map fun _ => true).all id = true by simp]
theorem ix2a (a b : D) (env : List DL.Slot) (Q E) : ixM (.tup [a, b]) (.int 0) env Q E = Q a env := rfl
theorem ix2b (a b : D) (env : List DL.Slot) (Q E) : ixM (.tup [a, b]) (.int 1) env Q E = Q b env := rfl
section
variable (C : Addr) {g s g' s' : Int} (hg : 1 ≤ g ∧ g ≤ 24) (hs : 0 ≤ s ∧ s ≤ 6) (hg' : 1 ≤ g' ∧ g' ≤ 24) (hs' : 0 ≤ s' ∧ s' ≤ 6)
def hallL (L : List (Int × Int)) : List D := L.map fun p => D.hall p.1 p.2
def eB (g s g' s' : Int) : Bool := decide (g = g' ∧ s = s')
include hg hs hg' hs' in
theorem tw23 (v0 : DL.Slot) (Q E) : seqM (tw2 C) (tw3 C) [v0, .im (.tup [.int g, .int s]), .im (.tup [.int g', .int s']), .no, .no, .no, .no, .no, .no, .no] Q E =
    Q .nx [v0, .im (.tup [.int g, .int s]), .im (.tup [.int g', .int s']), .im (.hall g s), .im (.hall g' s'), .im (.bl (eB g s g' s')), .no, .no, .no, .no] := by
  have p1 := fun x => p_init C x g s hg hs
  have p2 := fun x => p_init C x g' s' hg' hs'
  have ep := eq_pair g s g' s'
  simp only [↓tw2, ↓tw3, ↓ix2a, ↓ix2b, ↓p1, ↓p2, ↓ep, eB, ↓bnd_ap, ↓ret_ap, ↓ask_ap, ↓fail_ap, ↓ite_ap, ↓dVar, ↓getO, ↓putO, ↓setI, ↓setO, ↓takeO, ↓frzV, getElem?_0, getElem?_s, List.set_cons_zero, List.set_cons_succ, ↓seqM, ↓seqK, ↓thenN, ↓ifM, ↓andB, ↓orB, ↓notB, ↓andV, ↓orV, ↓notV, ↓asB, ↓do2, ↓chM, ↓consM, ↓consD, ↓consO, ↓tupM, ↓lstM, ↓olstM, ↓frzM, ↓resD, ↓resO, ↓callN, ↓callA, ↓allD, ↓split1, ↓callD, ↓call1, ↓callK, ↓ioAt, ↓putS, ↓finA, ↓defM, ↓un1, ↓un2, ↓truD, ↓isiD, D.kind, CT.is, ↓ltD, ↓leD, ↓gtD, ↓geD, ↓addD, ↓subD, ↓mulD, ↓modD, ↓fdivD, ↓powD, ↓isNonD, ↓notNonD, ↓negD, ↓lenD, ↓absD, ↓DL.intD, ↓max2D, ↓min2D, ↓divD, ↓tupD, ↓hgM, ↓hsM, ↓hcallM, ↓oixM, ↓olist, ↓asL, ↓ixL, ↓olenM, ↓oappM, ↓osetM, ↓opopM, ↓oremM, ↓oinM, ↓oset, ↓asS, ↓oaddM, ↓osinM, ↓otupM, ↓tRgM, ↓lRgM, ↓asgM, ↓setTw, ↓setKs, ↓setTup, ↓setIs, ↓parM, ↓setVs, ↓setV, ↓vD, ↓vO, ↓oins, ↓asI, ↓fsetM, putFD, ↓hallM, hallOf, ↓mkM, ↓DL.forM, ↓itR1, ↓itR2, ↓itLst, ↓itTup, ↓enTup, ↓enLst, ↓partM, ↓slM, ↓asT, ↓tidxM, Option.map, List.map_cons, List.map_nil, List.cons_append, List.nil_append, List.length_cons, List.length_nil, List.replicate, Nat.reduceAdd, Nat.reduceSub, Nat.sub_self, Bool.not_true, Bool.not_false, ↓if_true, ↓if_false, ↓ite_true, ↓ite_false, true_and, and_true, Bool.true_eq_false, Bool.false_eq_true, reduceIte, pick_eq, at3_0, at3_1, at3_2, ix3_0, ix3_1, ix3_2, ↓eqM_ii, ↓eqM_ni, ↓eqM_in, ↓eqM_ss, ↓neM_ii, ↓neM_ss, backE, oldS, ↓loopK_nx, ↓loopK_rt, ↓forL_nil, ↓forL_cons, sl0, sl1, sl2, sl3, sl4, sl5, sl6, sl7, sl8, forall_const, sm0, sm1, sm2, sm3, sm4, sm5, sm6, sm7, sm8, wipeE, ↓compL_n, ↓compL_c, ↓compM_ap, List.filterMap_cons, List.filterMap_nil, ↓odixM, ↓odinM, ↓odic, ↓asDi, ↓DL.keyD, ↓un1O, ↓listO, ↓tryM, ↓sortD, ↓DL.max1D, ↓otupV, ↓backM, ↓dictO, ↓maxTD, ↓oidxM, ↓lenRg, ↓lenR]
theorem shP_bl (b : Bool) : ShP (.bl b) 0 0 := by cases b <;> exact ⟨rfl, rfl, rfl, rfl, by decide, by decide⟩
theorem tw4_ap (v0 v1 v2 v6 v7 v8 v9 : DL.Slot) (Q E) : tw4 C [v0, v1, v2, .im (.hall g s), .im (.hall g' s'), .im (.bl (eB g s g' s')), v6, v7, v8, v9] Q E =
    Q .nx [v0, v1, v2, .im (.hall g s), .im (.hall g' s'), .im (.bl (eB g s g' s')), v6, v7, v8, v9] := by
  have h1 : ∀ env Q E, heqM (f_Hall_eq C) false (.hall g s) (.hall g' s') env Q E = Q (.bl (eB g s g' s')) env := fun env Q E => by rw [heq_hh]; rfl
  have h2 : ∀ env Q E, heqM (f_Hall_eq C) false (.hall g' s') (.hall g s) env Q E = Q (.bl (eB g s g' s')) env := fun env Q E => by
    rw [heq_hh]
    show Q (.bl (decide (g' = g ∧ s' = s))) env = _
    rw [show decide (g' = g ∧ s' = s) = eB g s g' s' from decide_eq_decide.mpr ⟨fun h => ⟨h.1.symm, h.2.symm⟩, fun h => ⟨h.1.symm, h.2.symm⟩⟩]
  have h3 : ∀ env Q E, hinM (f_Hall_eq C) (.hall g s) (.lst [.hall g' s']) env Q E = Q (.bl (eB g s g' s')) env := fun env Q E => by
    rw [hin_ap]
    rw [show decide (g' = g ∧ s' = s) = eB g s g' s' from decide_eq_decide.mpr ⟨fun h => ⟨h.1.symm, h.2.symm⟩, fun h => ⟨h.1.symm, h.2.symm⟩⟩]
  have h4 : ∀ env Q E, heqM (f_Hall_eq C) true (.hall g s) (.hall g' s') env Q E = Q (.bl (!eB g s g' s')) env := fun env Q E => by rw [heq_hh]; rfl
  generalize eB g s g' s' = c at *
  have sh := fun env Q E => (ShP.lst (ds := [.bl c, .bl c, .bl c, .bl c]) (n := 0) (b := 0) (fun d hd => by
    simp only [List.mem_cons, List.not_mem_nil, or_false, or_self] at hd
    rw [hd]; exact shP_bl c)).rep rfl (by decide) (by show (0 + 1) * 4 ≤ _; decide) env Q E
  have z2 : -(2 ^ 63) ≤ (4 : Int) ∧ (4 : Int) < 2 ^ 63 ∧ 1 * (4 : Int).toNat ≤ sizeLine := ⟨by decide, by decide, by rw [sizeLine_eq]; decide⟩
  have z3 : ∀ x : D, (List.replicate (4 : Int).toNat [x]).flatten = [x, x, x, x] := fun _ => rfl
  have ee : ∀ t : Str, (t == t) = true := fun t => beq_self_eq_true _
  simp only [↓tw4, ↓h1, ↓h2, ↓h3, ↓h4, Bool.not_not, ↓sh, z2, z3, ee, ↓bnd_ap, ↓ret_ap, ↓ask_ap, ↓fail_ap, ↓ite_ap, ↓dVar, ↓getO, ↓putO, ↓setI, ↓setO, ↓takeO, ↓frzV, getElem?_0, getElem?_s, List.set_cons_zero, List.set_cons_succ, ↓seqM, ↓seqK, ↓thenN, ↓ifM, ↓andB, ↓orB, ↓notB, ↓andV, ↓orV, ↓notV, ↓asB, ↓do2, ↓chM, ↓consM, ↓consD, ↓consO, ↓tupM, ↓lstM, ↓olstM, ↓frzM, ↓resD, ↓resO, ↓callN, ↓callA, ↓allD, ↓split1, ↓callD, ↓call1, ↓callK, ↓ioAt, ↓putS, ↓finA, ↓defM, ↓un1, ↓un2, ↓truD, ↓isiD, D.kind, CT.is, ↓ltD, ↓leD, ↓gtD, ↓geD, ↓addD, ↓subD, ↓mulD, ↓modD, ↓fdivD, ↓powD, ↓isNonD, ↓notNonD, ↓negD, ↓lenD, ↓absD, ↓DL.intD, ↓max2D, ↓min2D, ↓divD, ↓tupD, ↓hgM, ↓hsM, ↓hcallM, ↓oixM, ↓olist, ↓asL, ↓ixL, ↓olenM, ↓oappM, ↓osetM, ↓opopM, ↓oremM, ↓oinM, ↓oset, ↓asS, ↓oaddM, ↓osinM, ↓otupM, ↓tRgM, ↓lRgM, ↓asgM, ↓setTw, ↓setKs, ↓setTup, ↓setIs, ↓parM, ↓setVs, ↓setV, ↓vD, ↓vO, ↓oins, ↓asI, ↓fsetM, putFD, ↓hallM, hallOf, ↓mkM, ↓DL.forM, ↓itR1, ↓itR2, ↓itLst, ↓itTup, ↓enTup, ↓enLst, ↓partM, ↓slM, ↓asT, ↓tidxM, Option.map, List.map_cons, List.map_nil, List.cons_append, List.nil_append, List.length_cons, List.length_nil, List.replicate, Nat.reduceAdd, Nat.reduceSub, Nat.sub_self, Bool.not_true, Bool.not_false, ↓if_true, ↓if_false, ↓ite_true, ↓ite_false, true_and, and_true, Bool.true_eq_false, Bool.false_eq_true, reduceIte, pick_eq, at3_0, at3_1, at3_2, ix3_0, ix3_1, ix3_2, ↓eqM_ii, ↓eqM_ni, ↓eqM_in, ↓eqM_ss, ↓neM_ii, ↓neM_ss, backE, oldS, ↓loopK_nx, ↓loopK_rt, ↓forL_nil, ↓forL_cons, sl0, sl1, sl2, sl3, sl4, sl5, sl6, sl7, sl8, forall_const, sm0, sm1, sm2, sm3, sm4, sm5, sm6, sm7, sm8, wipeE, ↓compL_n, ↓compL_c, ↓compM_ap, List.filterMap_cons, List.filterMap_nil, ↓odixM, ↓odinM, ↓odic, ↓asDi, ↓DL.keyD, ↓un1O, ↓listO, ↓tryM, ↓sortD, ↓DL.max1D, ↓otupV, ↓backM, ↓dictO, ↓maxTD, ↓oidxM, ↓lenRg, ↓lenR]
/-- Halls near by -/
def nearL (g s : Int) : List (Int × Int) := [(1 + g % 24, s), (g, (s + 1) % 7)] ++ (if g < 24 ∧ 0 < s then [(g + 1, s - 1)] else []) ++ (if 1 < g ∧ s < 6 then [(g - 1, s + 1)] else [])
include hg hs in
theorem near_no : ∀ p ∈ nearL g s, ¬ (g = p.1 ∧ s = p.2) := by
  intro p hp
  unfold nearL at hp
  rcases List.mem_append.mp hp with hp | hp
  · rcases List.mem_append.mp hp with hp | hp
    · simp only [List.mem_cons, List.not_mem_nil, or_false] at hp
      rcases hp with e | e <;> subst e <;> simp only <;> omega
    · split at hp
      · rw [List.mem_singleton] at hp; subst hp; simp only; omega
      · cases hp
  · split at hp
    · rw [List.mem_singleton] at hp; subst hp; simp only; omega
    · cases hp
theorem near_len : (nearL g s).length ≤ 4 := by
  unfold nearL
  split <;> split <;> simp
include hg hs in
theorem tw567 (v0 v2 v4 v5 v7 v8 v9 : DL.Slot) (Q E) : seqM (tw5 C) (seqM (tw6 C) (tw7 C)) [v0, .im (.tup [.int g, .int s]), v2, .im (.hall g s), v4, v5, .no, v7, v8, v9] Q E =
    Q .nx [v0, .im (.tup [.int g, .int s]), v2, .im (.hall g s), v4, v5, .ow (.lst (hallL (nearL g s))), v7, v8, v9] := by
  have p1 := fun x => p_init C x (1 + g % 24) s (by omega) hs
  have p2 := fun x => p_init C x g ((s + 1) % 7) hg (by omega)
  have z24 : ((0 : Int) < 24) = True := eq_true (by decide)
  have z7 : ((0 : Int) < 7) = True := eq_true (by decide)
  have y : ∀ n : Nat, n ≤ 10 → (n ≤ sizeLine) = True := fun n hn => eq_true (by rw [sizeLine_eq]; omega)
  have y' : ∀ n : Nat, n ≤ 10 → (n < sizeLine) = True := fun n hn => eq_true (by rw [sizeLine_eq]; omega)
  have a2 := y 2 (by decide)
  have a3 := y' 2 (by decide)
  have a4 := y' 3 (by decide)
  by_cases c1 : g < 24 ∧ 0 < s
  · have p3 := fun x => p_init C x (g + 1) (s - 1) (by omega) (by omega)
    by_cases c2 : 1 < g ∧ s < 6
    · have p4 := fun x => p_init C x (g - 1) (s + 1) (by omega) (by omega)
      simp only [↓tw5, ↓tw6, ↓tw7, ↓ix2a, ↓ix2b, ↓p1, ↓p2, ↓p3, ↓p4, z24, z7, a2, a3, a4, nearL, hallL, if_pos c1, if_pos c2, decide_eq_true c1.1, decide_eq_true c1.2, decide_eq_true c2.1, decide_eq_true c2.2, true_and, ↓bnd_ap, ↓ret_ap, ↓ask_ap, ↓fail_ap, ↓ite_ap, ↓dVar, ↓getO, ↓putO, ↓setI, ↓setO, ↓takeO, ↓frzV, getElem?_0, getElem?_s, List.set_cons_zero, List.set_cons_succ, ↓seqM, ↓seqK, ↓thenN, ↓ifM, ↓andB, ↓orB, ↓notB, ↓andV, ↓orV, ↓notV, ↓asB, ↓do2, ↓chM, ↓consM, ↓consD, ↓consO, ↓tupM, ↓lstM, ↓olstM, ↓frzM, ↓resD, ↓resO, ↓callN, ↓callA, ↓allD, ↓split1, ↓callD, ↓call1, ↓callK, ↓ioAt, ↓putS, ↓finA, ↓defM, ↓un1, ↓un2, ↓truD, ↓isiD, D.kind, CT.is, ↓ltD, ↓leD, ↓gtD, ↓geD, ↓addD, ↓subD, ↓mulD, ↓modD, ↓fdivD, ↓powD, ↓isNonD, ↓notNonD, ↓negD, ↓lenD, ↓absD, ↓DL.intD, ↓max2D, ↓min2D, ↓divD, ↓tupD, ↓hgM, ↓hsM, ↓hcallM, ↓oixM, ↓olist, ↓asL, ↓ixL, ↓olenM, ↓oappM, ↓osetM, ↓opopM, ↓oremM, ↓oinM, ↓oset, ↓asS, ↓oaddM, ↓osinM, ↓otupM, ↓tRgM, ↓lRgM, ↓asgM, ↓setTw, ↓setKs, ↓setTup, ↓setIs, ↓parM, ↓setVs, ↓setV, ↓vD, ↓vO, ↓oins, ↓asI, ↓fsetM, putFD, ↓hallM, hallOf, ↓mkM, ↓DL.forM, ↓itR1, ↓itR2, ↓itLst, ↓itTup, ↓enTup, ↓enLst, ↓partM, ↓slM, ↓asT, ↓tidxM, Option.map, List.map_cons, List.map_nil, List.cons_append, List.nil_append, List.length_cons, List.length_nil, List.replicate, Nat.reduceAdd, Nat.reduceSub, Nat.sub_self, Bool.not_true, Bool.not_false, ↓if_true, ↓if_false, ↓ite_true, ↓ite_false, true_and, and_true, Bool.true_eq_false, Bool.false_eq_true, reduceIte, pick_eq, at3_0, at3_1, at3_2, ix3_0, ix3_1, ix3_2, ↓eqM_ii, ↓eqM_ni, ↓eqM_in, ↓eqM_ss, ↓neM_ii, ↓neM_ss, backE, oldS, ↓loopK_nx, ↓loopK_rt, ↓forL_nil, ↓forL_cons, sl0, sl1, sl2, sl3, sl4, sl5, sl6, sl7, sl8, forall_const, sm0, sm1, sm2, sm3, sm4, sm5, sm6, sm7, sm8, wipeE, ↓compL_n, ↓compL_c, ↓compM_ap, List.filterMap_cons, List.filterMap_nil, ↓odixM, ↓odinM, ↓odic, ↓asDi, ↓DL.keyD, ↓un1O, ↓listO, ↓tryM, ↓sortD, ↓DL.max1D, ↓otupV, ↓backM, ↓dictO, ↓maxTD, ↓oidxM, ↓lenRg, ↓lenR]
    · by_cases c3 : 1 < g
      · have c4 : ¬ s < 6 := fun h => c2 ⟨c3, h⟩
        simp only [↓tw5, ↓tw6, ↓tw7, ↓ix2a, ↓ix2b, ↓p1, ↓p2, ↓p3, z24, z7, a2, a3, a4, nearL, hallL, if_pos c1, if_neg c2, decide_eq_true c1.1, decide_eq_true c1.2, decide_eq_true c3, decide_eq_false c4, true_and, ↓bnd_ap, ↓ret_ap, ↓ask_ap, ↓fail_ap, ↓ite_ap, ↓dVar, ↓getO, ↓putO, ↓setI, ↓setO, ↓takeO, ↓frzV, getElem?_0, getElem?_s, List.set_cons_zero, List.set_cons_succ, ↓seqM, ↓seqK, ↓thenN, ↓ifM, ↓andB, ↓orB, ↓notB, ↓andV, ↓orV, ↓notV, ↓asB, ↓do2, ↓chM, ↓consM, ↓consD, ↓consO, ↓tupM, ↓lstM, ↓olstM, ↓frzM, ↓resD, ↓resO, ↓callN, ↓callA, ↓allD, ↓split1, ↓callD, ↓call1, ↓callK, ↓ioAt, ↓putS, ↓finA, ↓defM, ↓un1, ↓un2, ↓truD, ↓isiD, D.kind, CT.is, ↓ltD, ↓leD, ↓gtD, ↓geD, ↓addD, ↓subD, ↓mulD, ↓modD, ↓fdivD, ↓powD, ↓isNonD, ↓notNonD, ↓negD, ↓lenD, ↓absD, ↓DL.intD, ↓max2D, ↓min2D, ↓divD, ↓tupD, ↓hgM, ↓hsM, ↓hcallM, ↓oixM, ↓olist, ↓asL, ↓ixL, ↓olenM, ↓oappM, ↓osetM, ↓opopM, ↓oremM, ↓oinM, ↓oset, ↓asS, ↓oaddM, ↓osinM, ↓otupM, ↓tRgM, ↓lRgM, ↓asgM, ↓setTw, ↓setKs, ↓setTup, ↓setIs, ↓parM, ↓setVs, ↓setV, ↓vD, ↓vO, ↓oins, ↓asI, ↓fsetM, putFD, ↓hallM, hallOf, ↓mkM, ↓DL.forM, ↓itR1, ↓itR2, ↓itLst, ↓itTup, ↓enTup, ↓enLst, ↓partM, ↓slM, ↓asT, ↓tidxM, Option.map, List.map_cons, List.map_nil, List.cons_append, List.nil_append, List.length_cons, List.length_nil, List.replicate, Nat.reduceAdd, Nat.reduceSub, Nat.sub_self, Bool.not_true, Bool.not_false, ↓if_true, ↓if_false, ↓ite_true, ↓ite_false, true_and, and_true, Bool.true_eq_false, Bool.false_eq_true, reduceIte, pick_eq, at3_0, at3_1, at3_2, ix3_0, ix3_1, ix3_2, ↓eqM_ii, ↓eqM_ni, ↓eqM_in, ↓eqM_ss, ↓neM_ii, ↓neM_ss, backE, oldS, ↓loopK_nx, ↓loopK_rt, ↓forL_nil, ↓forL_cons, sl0, sl1, sl2, sl3, sl4, sl5, sl6, sl7, sl8, forall_const, sm0, sm1, sm2, sm3, sm4, sm5, sm6, sm7, sm8, wipeE, ↓compL_n, ↓compL_c, ↓compM_ap, List.filterMap_cons, List.filterMap_nil, ↓odixM, ↓odinM, ↓odic, ↓asDi, ↓DL.keyD, ↓un1O, ↓listO, ↓tryM, ↓sortD, ↓DL.max1D, ↓otupV, ↓backM, ↓dictO, ↓maxTD, ↓oidxM, ↓lenRg, ↓lenR]
      · simp only [↓tw5, ↓tw6, ↓tw7, ↓ix2a, ↓ix2b, ↓p1, ↓p2, ↓p3, z24, z7, a2, a3, a4, nearL, hallL, if_pos c1, if_neg c2, decide_eq_true c1.1, decide_eq_true c1.2, decide_eq_false c3, true_and, ↓bnd_ap, ↓ret_ap, ↓ask_ap, ↓fail_ap, ↓ite_ap, ↓dVar, ↓getO, ↓putO, ↓setI, ↓setO, ↓takeO, ↓frzV, getElem?_0, getElem?_s, List.set_cons_zero, List.set_cons_succ, ↓seqM, ↓seqK, ↓thenN, ↓ifM, ↓andB, ↓orB, ↓notB, ↓andV, ↓orV, ↓notV, ↓asB, ↓do2, ↓chM, ↓consM, ↓consD, ↓consO, ↓tupM, ↓lstM, ↓olstM, ↓frzM, ↓resD, ↓resO, ↓callN, ↓callA, ↓allD, ↓split1, ↓callD, ↓call1, ↓callK, ↓ioAt, ↓putS, ↓finA, ↓defM, ↓un1, ↓un2, ↓truD, ↓isiD, D.kind, CT.is, ↓ltD, ↓leD, ↓gtD, ↓geD, ↓addD, ↓subD, ↓mulD, ↓modD, ↓fdivD, ↓powD, ↓isNonD, ↓notNonD, ↓negD, ↓lenD, ↓absD, ↓DL.intD, ↓max2D, ↓min2D, ↓divD, ↓tupD, ↓hgM, ↓hsM, ↓hcallM, ↓oixM, ↓olist, ↓asL, ↓ixL, ↓olenM, ↓oappM, ↓osetM, ↓opopM, ↓oremM, ↓oinM, ↓oset, ↓asS, ↓oaddM, ↓osinM, ↓otupM, ↓tRgM, ↓lRgM, ↓asgM, ↓setTw, ↓setKs, ↓setTup, ↓setIs, ↓parM, ↓setVs, ↓setV, ↓vD, ↓vO, ↓oins, ↓asI, ↓fsetM, putFD, ↓hallM, hallOf, ↓mkM, ↓DL.forM, ↓itR1, ↓itR2, ↓itLst, ↓itTup, ↓enTup, ↓enLst, ↓partM, ↓slM, ↓asT, ↓tidxM, Option.map, List.map_cons, List.map_nil, List.cons_append, List.nil_append, List.length_cons, List.length_nil, List.replicate, Nat.reduceAdd, Nat.reduceSub, Nat.sub_self, Bool.not_true, Bool.not_false, ↓if_true, ↓if_false, ↓ite_true, ↓ite_false, true_and, and_true, Bool.true_eq_false, Bool.false_eq_true, reduceIte, pick_eq, at3_0, at3_1, at3_2, ix3_0, ix3_1, ix3_2, ↓eqM_ii, ↓eqM_ni, ↓eqM_in, ↓eqM_ss, ↓neM_ii, ↓neM_ss, backE, oldS, ↓loopK_nx, ↓loopK_rt, ↓forL_nil, ↓forL_cons, sl0, sl1, sl2, sl3, sl4, sl5, sl6, sl7, sl8, forall_const, sm0, sm1, sm2, sm3, sm4, sm5, sm6, sm7, sm8, wipeE, ↓compL_n, ↓compL_c, ↓compM_ap, List.filterMap_cons, List.filterMap_nil, ↓odixM, ↓odinM, ↓odic, ↓asDi, ↓DL.keyD, ↓un1O, ↓listO, ↓tryM, ↓sortD, ↓DL.max1D, ↓otupV, ↓backM, ↓dictO, ↓maxTD, ↓oidxM, ↓lenRg, ↓lenR]
  · by_cases c2 : 1 < g ∧ s < 6
    · have p4 := fun x => p_init C x (g - 1) (s + 1) (by omega) (by omega)
      by_cases c3 : g < 24
      · have c4 : ¬ 0 < s := fun h => c1 ⟨c3, h⟩
        simp only [↓tw5, ↓tw6, ↓tw7, ↓ix2a, ↓ix2b, ↓p1, ↓p2, ↓p4, z24, z7, a2, a3, a4, nearL, hallL, if_neg c1, if_pos c2, decide_eq_true c3, decide_eq_false c4, decide_eq_true c2.1, decide_eq_true c2.2, true_and, ↓bnd_ap, ↓ret_ap, ↓ask_ap, ↓fail_ap, ↓ite_ap, ↓dVar, ↓getO, ↓putO, ↓setI, ↓setO, ↓takeO, ↓frzV, getElem?_0, getElem?_s, List.set_cons_zero, List.set_cons_succ, ↓seqM, ↓seqK, ↓thenN, ↓ifM, ↓andB, ↓orB, ↓notB, ↓andV, ↓orV, ↓notV, ↓asB, ↓do2, ↓chM, ↓consM, ↓consD, ↓consO, ↓tupM, ↓lstM, ↓olstM, ↓frzM, ↓resD, ↓resO, ↓callN, ↓callA, ↓allD, ↓split1, ↓callD, ↓call1, ↓callK, ↓ioAt, ↓putS, ↓finA, ↓defM, ↓un1, ↓un2, ↓truD, ↓isiD, D.kind, CT.is, ↓ltD, ↓leD, ↓gtD, ↓geD, ↓addD, ↓subD, ↓mulD, ↓modD, ↓fdivD, ↓powD, ↓isNonD, ↓notNonD, ↓negD, ↓lenD, ↓absD, ↓DL.intD, ↓max2D, ↓min2D, ↓divD, ↓tupD, ↓hgM, ↓hsM, ↓hcallM, ↓oixM, ↓olist, ↓asL, ↓ixL, ↓olenM, ↓oappM, ↓osetM, ↓opopM, ↓oremM, ↓oinM, ↓oset, ↓asS, ↓oaddM, ↓osinM, ↓otupM, ↓tRgM, ↓lRgM, ↓asgM, ↓setTw, ↓setKs, ↓setTup, ↓setIs, ↓parM, ↓setVs, ↓setV, ↓vD, ↓vO, ↓oins, ↓asI, ↓fsetM, putFD, ↓hallM, hallOf, ↓mkM, ↓DL.forM, ↓itR1, ↓itR2, ↓itLst, ↓itTup, ↓enTup, ↓enLst, ↓partM, ↓slM, ↓asT, ↓tidxM, Option.map, List.map_cons, List.map_nil, List.cons_append, List.nil_append, List.length_cons, List.length_nil, List.replicate, Nat.reduceAdd, Nat.reduceSub, Nat.sub_self, Bool.not_true, Bool.not_false, ↓if_true, ↓if_false, ↓ite_true, ↓ite_false, true_and, and_true, Bool.true_eq_false, Bool.false_eq_true, reduceIte, pick_eq, at3_0, at3_1, at3_2, ix3_0, ix3_1, ix3_2, ↓eqM_ii, ↓eqM_ni, ↓eqM_in, ↓eqM_ss, ↓neM_ii, ↓neM_ss, backE, oldS, ↓loopK_nx, ↓loopK_rt, ↓forL_nil, ↓forL_cons, sl0, sl1, sl2, sl3, sl4, sl5, sl6, sl7, sl8, forall_const, sm0, sm1, sm2, sm3, sm4, sm5, sm6, sm7, sm8, wipeE, ↓compL_n, ↓compL_c, ↓compM_ap, List.filterMap_cons, List.filterMap_nil, ↓odixM, ↓odinM, ↓odic, ↓asDi, ↓DL.keyD, ↓un1O, ↓listO, ↓tryM, ↓sortD, ↓DL.max1D, ↓otupV, ↓backM, ↓dictO, ↓maxTD, ↓oidxM, ↓lenRg, ↓lenR]
      · simp only [↓tw5, ↓tw6, ↓tw7, ↓ix2a, ↓ix2b, ↓p1, ↓p2, ↓p4, z24, z7, a2, a3, a4, nearL, hallL, if_neg c1, if_pos c2, decide_eq_false c3, decide_eq_true c2.1, decide_eq_true c2.2, true_and, ↓bnd_ap, ↓ret_ap, ↓ask_ap, ↓fail_ap, ↓ite_ap, ↓dVar, ↓getO, ↓putO, ↓setI, ↓setO, ↓takeO, ↓frzV, getElem?_0, getElem?_s, List.set_cons_zero, List.set_cons_succ, ↓seqM, ↓seqK, ↓thenN, ↓ifM, ↓andB, ↓orB, ↓notB, ↓andV, ↓orV, ↓notV, ↓asB, ↓do2, ↓chM, ↓consM, ↓consD, ↓consO, ↓tupM, ↓lstM, ↓olstM, ↓frzM, ↓resD, ↓resO, ↓callN, ↓callA, ↓allD, ↓split1, ↓callD, ↓call1, ↓callK, ↓ioAt, ↓putS, ↓finA, ↓defM, ↓un1, ↓un2, ↓truD, ↓isiD, D.kind, CT.is, ↓ltD, ↓leD, ↓gtD, ↓geD, ↓addD, ↓subD, ↓mulD, ↓modD, ↓fdivD, ↓powD, ↓isNonD, ↓notNonD, ↓negD, ↓lenD, ↓absD, ↓DL.intD, ↓max2D, ↓min2D, ↓divD, ↓tupD, ↓hgM, ↓hsM, ↓hcallM, ↓oixM, ↓olist, ↓asL, ↓ixL, ↓olenM, ↓oappM, ↓osetM, ↓opopM, ↓oremM, ↓oinM, ↓oset, ↓asS, ↓oaddM, ↓osinM, ↓otupM, ↓tRgM, ↓lRgM, ↓asgM, ↓setTw, ↓setKs, ↓setTup, ↓setIs, ↓parM, ↓setVs, ↓setV, ↓vD, ↓vO, ↓oins, ↓asI, ↓fsetM, putFD, ↓hallM, hallOf, ↓mkM, ↓DL.forM, ↓itR1, ↓itR2, ↓itLst, ↓itTup, ↓enTup, ↓enLst, ↓partM, ↓slM, ↓asT, ↓tidxM, Option.map, List.map_cons, List.map_nil, List.cons_append, List.nil_append, List.length_cons, List.length_nil, List.replicate, Nat.reduceAdd, Nat.reduceSub, Nat.sub_self, Bool.not_true, Bool.not_false, ↓if_true, ↓if_false, ↓ite_true, ↓ite_false, true_and, and_true, Bool.true_eq_false, Bool.false_eq_true, reduceIte, pick_eq, at3_0, at3_1, at3_2, ix3_0, ix3_1, ix3_2, ↓eqM_ii, ↓eqM_ni, ↓eqM_in, ↓eqM_ss, ↓neM_ii, ↓neM_ss, backE, oldS, ↓loopK_nx, ↓loopK_rt, ↓forL_nil, ↓forL_cons, sl0, sl1, sl2, sl3, sl4, sl5, sl6, sl7, sl8, forall_const, sm0, sm1, sm2, sm3, sm4, sm5, sm6, sm7, sm8, wipeE, ↓compL_n, ↓compL_c, ↓compM_ap, List.filterMap_cons, List.filterMap_nil, ↓odixM, ↓odinM, ↓odic, ↓asDi, ↓DL.keyD, ↓un1O, ↓listO, ↓tryM, ↓sortD, ↓DL.max1D, ↓otupV, ↓backM, ↓dictO, ↓maxTD, ↓oidxM, ↓lenRg, ↓lenR]
    · by_cases c3 : g < 24
      · have c4 : ¬ 0 < s := fun h => c1 ⟨c3, h⟩
        have c5 : ¬ 1 < g := fun h => c2 ⟨h, by omega⟩
        simp only [↓tw5, ↓tw6, ↓tw7, ↓ix2a, ↓ix2b, ↓p1, ↓p2, z24, z7, a2, a3, a4, nearL, hallL, if_neg c1, if_neg c2, decide_eq_true c3, decide_eq_false c4, decide_eq_false c5, true_and, ↓bnd_ap, ↓ret_ap, ↓ask_ap, ↓fail_ap, ↓ite_ap, ↓dVar, ↓getO, ↓putO, ↓setI, ↓setO, ↓takeO, ↓frzV, getElem?_0, getElem?_s, List.set_cons_zero, List.set_cons_succ, ↓seqM, ↓seqK, ↓thenN, ↓ifM, ↓andB, ↓orB, ↓notB, ↓andV, ↓orV, ↓notV, ↓asB, ↓do2, ↓chM, ↓consM, ↓consD, ↓consO, ↓tupM, ↓lstM, ↓olstM, ↓frzM, ↓resD, ↓resO, ↓callN, ↓callA, ↓allD, ↓split1, ↓callD, ↓call1, ↓callK, ↓ioAt, ↓putS, ↓finA, ↓defM, ↓un1, ↓un2, ↓truD, ↓isiD, D.kind, CT.is, ↓ltD, ↓leD, ↓gtD, ↓geD, ↓addD, ↓subD, ↓mulD, ↓modD, ↓fdivD, ↓powD, ↓isNonD, ↓notNonD, ↓negD, ↓lenD, ↓absD, ↓DL.intD, ↓max2D, ↓min2D, ↓divD, ↓tupD, ↓hgM, ↓hsM, ↓hcallM, ↓oixM, ↓olist, ↓asL, ↓ixL, ↓olenM, ↓oappM, ↓osetM, ↓opopM, ↓oremM, ↓oinM, ↓oset, ↓asS, ↓oaddM, ↓osinM, ↓otupM, ↓tRgM, ↓lRgM, ↓asgM, ↓setTw, ↓setKs, ↓setTup, ↓setIs, ↓parM, ↓setVs, ↓setV, ↓vD, ↓vO, ↓oins, ↓asI, ↓fsetM, putFD, ↓hallM, hallOf, ↓mkM, ↓DL.forM, ↓itR1, ↓itR2, ↓itLst, ↓itTup, ↓enTup, ↓enLst, ↓partM, ↓slM, ↓asT, ↓tidxM, Option.map, List.map_cons, List.map_nil, List.cons_append, List.nil_append, List.length_cons, List.length_nil, List.replicate, Nat.reduceAdd, Nat.reduceSub, Nat.sub_self, Bool.not_true, Bool.not_false, ↓if_true, ↓if_false, ↓ite_true, ↓ite_false, true_and, and_true, Bool.true_eq_false, Bool.false_eq_true, reduceIte, pick_eq, at3_0, at3_1, at3_2, ix3_0, ix3_1, ix3_2, ↓eqM_ii, ↓eqM_ni, ↓eqM_in, ↓eqM_ss, ↓neM_ii, ↓neM_ss, backE, oldS, ↓loopK_nx, ↓loopK_rt, ↓forL_nil, ↓forL_cons, sl0, sl1, sl2, sl3, sl4, sl5, sl6, sl7, sl8, forall_const, sm0, sm1, sm2, sm3, sm4, sm5, sm6, sm7, sm8, wipeE, ↓compL_n, ↓compL_c, ↓compM_ap, List.filterMap_cons, List.filterMap_nil, ↓odixM, ↓odinM, ↓odic, ↓asDi, ↓DL.keyD, ↓un1O, ↓listO, ↓tryM, ↓sortD, ↓DL.max1D, ↓otupV, ↓backM, ↓dictO, ↓maxTD, ↓oidxM, ↓lenRg, ↓lenR]
      · have c5 : 1 < g := by omega
        have c6 : ¬ s < 6 := fun h => c2 ⟨c5, h⟩
        simp only [↓tw5, ↓tw6, ↓tw7, ↓ix2a, ↓ix2b, ↓p1, ↓p2, z24, z7, a2, a3, a4, nearL, hallL, if_neg c1, if_neg c2, decide_eq_false c3, decide_eq_true c5, decide_eq_false c6, true_and, ↓bnd_ap, ↓ret_ap, ↓ask_ap, ↓fail_ap, ↓ite_ap, ↓dVar, ↓getO, ↓putO, ↓setI, ↓setO, ↓takeO, ↓frzV, getElem?_0, getElem?_s, List.set_cons_zero, List.set_cons_succ, ↓seqM, ↓seqK, ↓thenN, ↓ifM, ↓andB, ↓orB, ↓notB, ↓andV, ↓orV, ↓notV, ↓asB, ↓do2, ↓chM, ↓consM, ↓consD, ↓consO, ↓tupM, ↓lstM, ↓olstM, ↓frzM, ↓resD, ↓resO, ↓callN, ↓callA, ↓allD, ↓split1, ↓callD, ↓call1, ↓callK, ↓ioAt, ↓putS, ↓finA, ↓defM, ↓un1, ↓un2, ↓truD, ↓isiD, D.kind, CT.is, ↓ltD, ↓leD, ↓gtD, ↓geD, ↓addD, ↓subD, ↓mulD, ↓modD, ↓fdivD, ↓powD, ↓isNonD, ↓notNonD, ↓negD, ↓lenD, ↓absD, ↓DL.intD, ↓max2D, ↓min2D, ↓divD, ↓tupD, ↓hgM, ↓hsM, ↓hcallM, ↓oixM, ↓olist, ↓asL, ↓ixL, ↓olenM, ↓oappM, ↓osetM, ↓opopM, ↓oremM, ↓oinM, ↓oset, ↓asS, ↓oaddM, ↓osinM, ↓otupM, ↓tRgM, ↓lRgM, ↓asgM, ↓setTw, ↓setKs, ↓setTup, ↓setIs, ↓parM, ↓setVs, ↓setV, ↓vD, ↓vO, ↓oins, ↓asI, ↓fsetM, putFD, ↓hallM, hallOf, ↓mkM, ↓DL.forM, ↓itR1, ↓itR2, ↓itLst, ↓itTup, ↓enTup, ↓enLst, ↓partM, ↓slM, ↓asT, ↓tidxM, Option.map, List.map_cons, List.map_nil, List.cons_append, List.nil_append, List.length_cons, List.length_nil, List.replicate, Nat.reduceAdd, Nat.reduceSub, Nat.sub_self, Bool.not_true, Bool.not_false, ↓if_true, ↓if_false, ↓ite_true, ↓ite_false, true_and, and_true, Bool.true_eq_false, Bool.false_eq_true, reduceIte, pick_eq, at3_0, at3_1, at3_2, ix3_0, ix3_1, ix3_2, ↓eqM_ii, ↓eqM_ni, ↓eqM_in, ↓eqM_ss, ↓neM_ii, ↓neM_ss, backE, oldS, ↓loopK_nx, ↓loopK_rt, ↓forL_nil, ↓forL_cons, sl0, sl1, sl2, sl3, sl4, sl5, sl6, sl7, sl8, forall_const, sm0, sm1, sm2, sm3, sm4, sm5, sm6, sm7, sm8, wipeE, ↓compL_n, ↓compL_c, ↓compM_ap, List.filterMap_cons, List.filterMap_nil, ↓odixM, ↓odinM, ↓odic, ↓asDi, ↓DL.keyD, ↓un1O, ↓listO, ↓tryM, ↓sortD, ↓DL.max1D, ↓otupV, ↓backM, ↓dictO, ↓maxTD, ↓oidxM, ↓lenRg, ↓lenR]
end
end DLP

set_option Elab.async false
set_option linter.all false
set_option maxRecDepth 100000
set_option maxHeartbeats 4000000
namespace DLP
open PySem PySem.Spec PyProof.Rows L2 DL MW
section
variable (C : Addr) {g s : Int} (hg : 1 ≤ g ∧ g ≤ 24) (hs : 0 ≤ s ∧ s ≤ 6)
include hg hs in
theorem q_near (neg : Bool) (v0 v1 v2 v4 v5 : DL.Slot) (Q E) : compM (bnd (frzV 6) itLst) (setI 8) [8] (DL.ret true) (do2 (dVar 3) (dVar 8) (heqM (f_Hall_eq C) neg)) [v0, v1, v2, .im (.hall g s), v4, v5, .im (.lst (hallL (nearL g s))), .no, .no, .no] Q E =
    Q (.lst ((nearL g s).map fun _ => .bl neg)) [v0, v1, v2, .im (.hall g s), v4, v5, .im (.lst (hallL (nearL g s))), .no, .no, .no] := by
  have no := near_no (g := g) (s := s) hg hs
  have z := near_len (g := g) (s := s)
  have := comp_pure (items := bnd (frzV 6) itLst) (tg := setI 8) (vs := [8]) (cond := DL.ret true) (elt := do2 (dVar 3) (dVar 8) (heqM (f_Hall_eq C) neg)) (env := [v0, v1, v2, .im (.hall g s), v4, v5, .im (.lst (hallL (nearL g s))), .no, .no, .no]) (nearL g s) (fun p => D.hall p.1 p.2) (fun _ => true) (fun _ => .bl neg) (fun Q E => by
    simp only [hallL, ↓bnd_ap, ↓ret_ap, ↓ask_ap, ↓fail_ap, ↓ite_ap, ↓dVar, ↓getO, ↓putO, ↓setI, ↓setO, ↓takeO, ↓frzV, getElem?_0, getElem?_s, List.set_cons_zero, List.set_cons_succ, ↓seqM, ↓seqK, ↓thenN, ↓ifM, ↓andB, ↓orB, ↓notB, ↓andV, ↓orV, ↓notV, ↓asB, ↓do2, ↓chM, ↓consM, ↓consD, ↓consO, ↓tupM, ↓lstM, ↓olstM, ↓frzM, ↓resD, ↓resO, ↓callN, ↓callA, ↓allD, ↓split1, ↓callD, ↓call1, ↓callK, ↓ioAt, ↓putS, ↓finA, ↓defM, ↓un1, ↓un2, ↓truD, ↓isiD, D.kind, CT.is, ↓ltD, ↓leD, ↓gtD, ↓geD, ↓addD, ↓subD, ↓mulD, ↓modD, ↓fdivD, ↓powD, ↓isNonD, ↓notNonD, ↓negD, ↓lenD, ↓absD, ↓DL.intD, ↓max2D, ↓min2D, ↓divD, ↓tupD, ↓hgM, ↓hsM, ↓hcallM, ↓oixM, ↓olist, ↓asL, ↓ixL, ↓olenM, ↓oappM, ↓osetM, ↓opopM, ↓oremM, ↓oinM, ↓oset, ↓asS, ↓oaddM, ↓osinM, ↓otupM, ↓tRgM, ↓lRgM, ↓asgM, ↓setTw, ↓setKs, ↓setTup, ↓setIs, ↓parM, ↓setVs, ↓setV, ↓vD, ↓vO, ↓oins, ↓asI, ↓fsetM, putFD, ↓hallM, hallOf, ↓mkM, ↓DL.forM, ↓itR1, ↓itR2, ↓itLst, ↓itTup, ↓enTup, ↓enLst, ↓partM, ↓slM, ↓asT, ↓tidxM, Option.map, List.map_cons, List.map_nil, List.cons_append, List.nil_append, List.length_cons, List.length_nil, List.replicate, Nat.reduceAdd, Nat.reduceSub, Nat.sub_self, Bool.not_true, Bool.not_false, ↓if_true, ↓if_false, ↓ite_true, ↓ite_false, true_and, and_true, Bool.true_eq_false, Bool.false_eq_true, reduceIte, pick_eq, at3_0, at3_1, at3_2, ix3_0, ix3_1, ix3_2, ↓eqM_ii, ↓eqM_ni, ↓eqM_in, ↓eqM_ss, ↓neM_ii, ↓neM_ss, backE, oldS, ↓loopK_nx, ↓loopK_rt, ↓forL_nil, ↓forL_cons, sl0, sl1, sl2, sl3, sl4, sl5, sl6, sl7, sl8, forall_const, sm0, sm1, sm2, sm3, sm4, sm5, sm6, sm7, sm8, wipeE, ↓compL_n, ↓compL_c, ↓compM_ap, List.filterMap_cons, List.filterMap_nil, ↓odixM, ↓odinM, ↓odic, ↓asDi, ↓DL.keyD, ↓un1O, ↓listO, ↓tryM, ↓sortD, ↓DL.max1D, ↓otupV, ↓backM, ↓dictO, ↓maxTD, ↓oidxM, ↓lenRg, ↓lenR]) (by omega) rfl (fun p hp => ⟨[v0, v1, v2, .im (.hall g s), v4, v5, .im (.lst (hallL (nearL g s))), .no, .im (.hall p.1 p.2), .no], rfl, fun Q E => rfl, fun Q E => rfl, fun _ Q E => by
      have h := fun env Q E => heq_hh C neg g s p.1 p.2 env Q E
      rw [decide_eq_false (no p hp)] at h
      cases neg <;> simp only [↓h, ↓bnd_ap, ↓ret_ap, ↓ask_ap, ↓fail_ap, ↓ite_ap, ↓dVar, ↓getO, ↓putO, ↓setI, ↓setO, ↓takeO, ↓frzV, getElem?_0, getElem?_s, List.set_cons_zero, List.set_cons_succ, ↓seqM, ↓seqK, ↓thenN, ↓ifM, ↓andB, ↓orB, ↓notB, ↓andV, ↓orV, ↓notV, ↓asB, ↓do2, ↓chM, ↓consM, ↓consD, ↓consO, ↓tupM, ↓lstM, ↓olstM, ↓frzM, ↓resD, ↓resO, ↓callN, ↓callA, ↓allD, ↓split1, ↓callD, ↓call1, ↓callK, ↓ioAt, ↓putS, ↓finA, ↓defM, ↓un1, ↓un2, ↓truD, ↓isiD, D.kind, CT.is, ↓ltD, ↓leD, ↓gtD, ↓geD, ↓addD, ↓subD, ↓mulD, ↓modD, ↓fdivD, ↓powD, ↓isNonD, ↓notNonD, ↓negD, ↓lenD, ↓absD, ↓DL.intD, ↓max2D, ↓min2D, ↓divD, ↓tupD, ↓hgM, ↓hsM, ↓hcallM, ↓oixM, ↓olist, ↓asL, ↓ixL, ↓olenM, ↓oappM, ↓osetM, ↓opopM, ↓oremM, ↓oinM, ↓oset, ↓asS, ↓oaddM, ↓osinM, ↓otupM, ↓tRgM, ↓lRgM, ↓asgM, ↓setTw, ↓setKs, ↓setTup, ↓setIs, ↓parM, ↓setVs, ↓setV, ↓vD, ↓vO, ↓oins, ↓asI, ↓fsetM, putFD, ↓hallM, hallOf, ↓mkM, ↓DL.forM, ↓itR1, ↓itR2, ↓itLst, ↓itTup, ↓enTup, ↓enLst, ↓partM, ↓slM, ↓asT, ↓tidxM, Option.map, List.map_cons, List.map_nil, List.cons_append, List.nil_append, List.length_cons, List.length_nil, List.replicate, Nat.reduceAdd, Nat.reduceSub, Nat.sub_self, Bool.not_true, Bool.not_false, ↓if_true, ↓if_false, ↓ite_true, ↓ite_false, true_and, and_true, Bool.true_eq_false, Bool.false_eq_true, reduceIte, pick_eq, at3_0, at3_1, at3_2, ix3_0, ix3_1, ix3_2, ↓eqM_ii, ↓eqM_ni, ↓eqM_in, ↓eqM_ss, ↓neM_ii, ↓neM_ss, backE, oldS, ↓loopK_nx, ↓loopK_rt, ↓forL_nil, ↓forL_cons, sl0, sl1, sl2, sl3, sl4, sl5, sl6, sl7, sl8, forall_const, sm0, sm1, sm2, sm3, sm4, sm5, sm6, sm7, sm8, wipeE, ↓compL_n, ↓compL_c, ↓compM_ap, List.filterMap_cons, List.filterMap_nil, ↓odixM, ↓odinM, ↓odic, ↓asDi, ↓DL.keyD, ↓un1O, ↓listO, ↓tryM, ↓sortD, ↓DL.max1D, ↓otupV, ↓backM, ↓dictO, ↓maxTD, ↓oidxM, ↓lenRg, ↓lenR] <;> rfl⟩) Q E
  rw [List.filter_eq_self.mpr fun _ _ => rfl] at this
  exact this
include hg hs in
theorem tw8_ap (v0 v1 v2 v4 v5 : DL.Slot) (Q E) : tw8 C [v0, v1, v2, .im (.hall g s), v4, v5, .ow (.lst (hallL (nearL g s))), .no, .no, .no] Q E =
    Q .nx [v0, v1, v2, .im (.hall g s), v4, v5, .im (.lst (hallL (nearL g s))), .no, .no, .no] := by
  have q1 : ∀ Q E, c_Ltwo_right_1 C [v0, v1, v2, .im (.hall g s), v4, v5, .ow (.lst (hallL (nearL g s))), .no, .no, .no] Q E = Q (.lst ((nearL g s).map fun _ => .bl false)) [v0, v1, v2, .im (.hall g s), v4, v5, .im (.lst (hallL (nearL g s))), .no, .no, .no] := fun Q E => q_near C hg hs false v0 v1 v2 v4 v5 Q E
  have q2 : ∀ Q E, c_Ltwo_right_2 C [v0, v1, v2, .im (.hall g s), v4, v5, .im (.lst (hallL (nearL g s))), .no, .no, .no] Q E = Q (.lst ((nearL g s).map fun _ => .bl true)) [v0, v1, v2, .im (.hall g s), v4, v5, .im (.lst (hallL (nearL g s))), .no, .no, .no] := q_near C hg hs true v0 v1 v2 v4 v5
  simp only [↓tw8, ↓q1, ↓q2, ↓any_no, ↓all_yes, ↓bnd_ap, ↓ret_ap, ↓ask_ap, ↓fail_ap, ↓ite_ap, ↓dVar, ↓getO, ↓putO, ↓setI, ↓setO, ↓takeO, ↓frzV, getElem?_0, getElem?_s, List.set_cons_zero, List.set_cons_succ, ↓seqM, ↓seqK, ↓thenN, ↓ifM, ↓andB, ↓orB, ↓notB, ↓andV, ↓orV, ↓notV, ↓asB, ↓do2, ↓chM, ↓consM, ↓consD, ↓consO, ↓tupM, ↓lstM, ↓olstM, ↓frzM, ↓resD, ↓resO, ↓callN, ↓callA, ↓allD, ↓split1, ↓callD, ↓call1, ↓callK, ↓ioAt, ↓putS, ↓finA, ↓defM, ↓un1, ↓un2, ↓truD, ↓isiD, D.kind, CT.is, ↓ltD, ↓leD, ↓gtD, ↓geD, ↓addD, ↓subD, ↓mulD, ↓modD, ↓fdivD, ↓powD, ↓isNonD, ↓notNonD, ↓negD, ↓lenD, ↓absD, ↓DL.intD, ↓max2D, ↓min2D, ↓divD, ↓tupD, ↓hgM, ↓hsM, ↓hcallM, ↓oixM, ↓olist, ↓asL, ↓ixL, ↓olenM, ↓oappM, ↓osetM, ↓opopM, ↓oremM, ↓oinM, ↓oset, ↓asS, ↓oaddM, ↓osinM, ↓otupM, ↓tRgM, ↓lRgM, ↓asgM, ↓setTw, ↓setKs, ↓setTup, ↓setIs, ↓parM, ↓setVs, ↓setV, ↓vD, ↓vO, ↓oins, ↓asI, ↓fsetM, putFD, ↓hallM, hallOf, ↓mkM, ↓DL.forM, ↓itR1, ↓itR2, ↓itLst, ↓itTup, ↓enTup, ↓enLst, ↓partM, ↓slM, ↓asT, ↓tidxM, Option.map, List.map_cons, List.map_nil, List.cons_append, List.nil_append, List.length_cons, List.length_nil, List.replicate, Nat.reduceAdd, Nat.reduceSub, Nat.sub_self, Bool.not_true, Bool.not_false, ↓if_true, ↓if_false, ↓ite_true, ↓ite_false, true_and, and_true, Bool.true_eq_false, Bool.false_eq_true, reduceIte, pick_eq, at3_0, at3_1, at3_2, ix3_0, ix3_1, ix3_2, ↓eqM_ii, ↓eqM_ni, ↓eqM_in, ↓eqM_ss, ↓neM_ii, ↓neM_ss, backE, oldS, ↓loopK_nx, ↓loopK_rt, ↓forL_nil, ↓forL_cons, sl0, sl1, sl2, sl3, sl4, sl5, sl6, sl7, sl8, forall_const, sm0, sm1, sm2, sm3, sm4, sm5, sm6, sm7, sm8, wipeE, ↓compL_n, ↓compL_c, ↓compM_ap, List.filterMap_cons, List.filterMap_nil, ↓odixM, ↓odinM, ↓odic, ↓asDi, ↓DL.keyD, ↓un1O, ↓listO, ↓tryM, ↓sortD, ↓DL.max1D, ↓otupV, ↓backM, ↓dictO, ↓maxTD, ↓oidxM, ↓lenRg, ↓lenR]
/-- things of other kinds -/
def thingsL (g s : Int) : List D := [.non, .bl true, .int g, .tup [.int g, .int s], .str (hallT g s), .str (hallRt g s), .lst [.hall g s], .tup [.hall g s], .emp, .lst [.int g, .int s], .tup [], .tup [.lst []], .int (10 ^ 30)]
theorem things_ok : ∀ d ∈ thingsL g s, sideOk d = true := by
  intro d hd
  simp only [thingsL, List.mem_cons, List.not_mem_nil, or_false] at hd
  rcases hd with e | e | e | e | e | e | e | e | e | e | e | e | e <;> subst e <;> rfl
theorem pow30 (env : List DL.Slot) (Q E) : powD (.int 10) (.int 30) env Q E = Q (.int (10 ^ 30)) env := propext ⟨fun z => z.2, fun z => ⟨⟨by decide, by decide, by decide⟩, z⟩⟩
include hg hs in
theorem tw9_ap (v0 v2 v4 v5 v6 : DL.Slot) (Q E) : tw9 C [v0, .im (.tup [.int g, .int s]), v2, .im (.hall g s), v4, v5, v6, .no, .no, .no] Q E =
    Q .nx [v0, .im (.tup [.int g, .int s]), v2, .im (.hall g s), v4, v5, v6, .im (.lst (thingsL g s)), .no, .no] := by
  have pt := p_hstr C g s hg hs
  have pr := p_hrepr C g s hg hs
  have y : ∀ n : Nat, n ≤ 20 → (n ≤ sizeLine) = True := fun n hn => eq_true (by rw [sizeLine_eq]; omega)
  have a0 := y 0 (by decide)
  have a1 := y 1 (by decide)
  have a2 := y 2 (by decide)
  have a13 := y 13 (by decide)
  simp only [↓tw9, ↓ix2a, ↓pt, ↓reprX, ↓callD_ap, ↓pr, ↓strR, ↓pow30, ↓listD, a0, a1, a2, a13, thingsL, ↓bnd_ap, ↓ret_ap, ↓ask_ap, ↓fail_ap, ↓ite_ap, ↓dVar, ↓getO, ↓putO, ↓setI, ↓setO, ↓takeO, ↓frzV, getElem?_0, getElem?_s, List.set_cons_zero, List.set_cons_succ, ↓seqM, ↓seqK, ↓thenN, ↓ifM, ↓andB, ↓orB, ↓notB, ↓andV, ↓orV, ↓notV, ↓asB, ↓do2, ↓chM, ↓consM, ↓consD, ↓consO, ↓tupM, ↓lstM, ↓olstM, ↓frzM, ↓resD, ↓resO, ↓callN, ↓callA, ↓allD, ↓split1, ↓callD, ↓call1, ↓callK, ↓ioAt, ↓putS, ↓finA, ↓defM, ↓un1, ↓un2, ↓truD, ↓isiD, D.kind, CT.is, ↓ltD, ↓leD, ↓gtD, ↓geD, ↓addD, ↓subD, ↓mulD, ↓modD, ↓fdivD, ↓isNonD, ↓notNonD, ↓negD, ↓lenD, ↓absD, ↓DL.intD, ↓max2D, ↓min2D, ↓divD, ↓tupD, ↓hgM, ↓hsM, ↓hcallM, ↓oixM, ↓olist, ↓asL, ↓ixL, ↓olenM, ↓oappM, ↓osetM, ↓opopM, ↓oremM, ↓oinM, ↓oset, ↓asS, ↓oaddM, ↓osinM, ↓otupM, ↓tRgM, ↓lRgM, ↓asgM, ↓setTw, ↓setKs, ↓setTup, ↓setIs, ↓parM, ↓setVs, ↓setV, ↓vD, ↓vO, ↓oins, ↓asI, ↓fsetM, putFD, ↓hallM, hallOf, ↓mkM, ↓DL.forM, ↓itR1, ↓itR2, ↓itLst, ↓itTup, ↓enTup, ↓enLst, ↓partM, ↓slM, ↓asT, ↓tidxM, Option.map, List.map_cons, List.map_nil, List.cons_append, List.nil_append, List.length_cons, List.length_nil, List.replicate, Nat.reduceAdd, Nat.reduceSub, Nat.sub_self, Bool.not_true, Bool.not_false, ↓if_true, ↓if_false, ↓ite_true, ↓ite_false, true_and, and_true, Bool.true_eq_false, Bool.false_eq_true, reduceIte, pick_eq, at3_0, at3_1, at3_2, ix3_0, ix3_1, ix3_2, ↓eqM_ii, ↓eqM_ni, ↓eqM_in, ↓eqM_ss, ↓neM_ii, ↓neM_ss, backE, oldS, ↓loopK_nx, ↓loopK_rt, ↓forL_nil, ↓forL_cons, sl0, sl1, sl2, sl3, sl4, sl5, sl6, sl7, sl8, forall_const, sm0, sm1, sm2, sm3, sm4, sm5, sm6, sm7, sm8, wipeE, ↓compL_n, ↓compL_c, ↓compM_ap, List.filterMap_cons, List.filterMap_nil, ↓odixM, ↓odinM, ↓odic, ↓asDi, ↓DL.keyD, ↓un1O, ↓listO, ↓tryM, ↓sortD, ↓DL.max1D, ↓otupV, ↓backM, ↓dictO, ↓maxTD, ↓oidxM, ↓lenRg, ↓lenR]
theorem q_things (neg left : Bool) (v0 v1 v2 v4 v5 v6 : DL.Slot) (Q E) : compM (bnd (dVar 7) itLst) (setI 9) [9] (DL.ret true) (if left = true then do2 (dVar 3) (dVar 9) (heqM (f_Hall_eq C) neg) else do2 (dVar 9) (dVar 3) (heqM (f_Hall_eq C) neg)) [v0, v1, v2, .im (.hall g s), v4, v5, v6, .im (.lst (thingsL g s)), .no, .no] Q E =
    Q (.lst ((thingsL g s).map fun _ => .bl neg)) [v0, v1, v2, .im (.hall g s), v4, v5, v6, .im (.lst (thingsL g s)), .no, .no] := by
  have := comp_pure (items := bnd (dVar 7) itLst) (tg := setI 9) (vs := [9]) (cond := DL.ret true) (elt := if left = true then do2 (dVar 3) (dVar 9) (heqM (f_Hall_eq C) neg) else do2 (dVar 9) (dVar 3) (heqM (f_Hall_eq C) neg)) (env := [v0, v1, v2, .im (.hall g s), v4, v5, v6, .im (.lst (thingsL g s)), .no, .no]) (thingsL g s) id (fun _ => true) (fun _ => .bl neg) (fun Q E => by
    simp only [List.map_id, ↓bnd_ap, ↓ret_ap, ↓ask_ap, ↓fail_ap, ↓ite_ap, ↓dVar, ↓getO, ↓putO, ↓setI, ↓setO, ↓takeO, ↓frzV, getElem?_0, getElem?_s, List.set_cons_zero, List.set_cons_succ, ↓seqM, ↓seqK, ↓thenN, ↓ifM, ↓andB, ↓orB, ↓notB, ↓andV, ↓orV, ↓notV, ↓asB, ↓do2, ↓chM, ↓consM, ↓consD, ↓consO, ↓tupM, ↓lstM, ↓olstM, ↓frzM, ↓resD, ↓resO, ↓callN, ↓callA, ↓allD, ↓split1, ↓callD, ↓call1, ↓callK, ↓ioAt, ↓putS, ↓finA, ↓defM, ↓un1, ↓un2, ↓truD, ↓isiD, D.kind, CT.is, ↓ltD, ↓leD, ↓gtD, ↓geD, ↓addD, ↓subD, ↓mulD, ↓modD, ↓fdivD, ↓powD, ↓isNonD, ↓notNonD, ↓negD, ↓lenD, ↓absD, ↓DL.intD, ↓max2D, ↓min2D, ↓divD, ↓tupD, ↓hgM, ↓hsM, ↓hcallM, ↓oixM, ↓olist, ↓asL, ↓ixL, ↓olenM, ↓oappM, ↓osetM, ↓opopM, ↓oremM, ↓oinM, ↓oset, ↓asS, ↓oaddM, ↓osinM, ↓otupM, ↓tRgM, ↓lRgM, ↓asgM, ↓setTw, ↓setKs, ↓setTup, ↓setIs, ↓parM, ↓setVs, ↓setV, ↓vD, ↓vO, ↓oins, ↓asI, ↓fsetM, putFD, ↓hallM, hallOf, ↓mkM, ↓DL.forM, ↓itR1, ↓itR2, ↓itLst, ↓itTup, ↓enTup, ↓enLst, ↓partM, ↓slM, ↓asT, ↓tidxM, Option.map, List.map_cons, List.map_nil, List.cons_append, List.nil_append, List.length_cons, List.length_nil, List.replicate, Nat.reduceAdd, Nat.reduceSub, Nat.sub_self, Bool.not_true, Bool.not_false, ↓if_true, ↓if_false, ↓ite_true, ↓ite_false, true_and, and_true, Bool.true_eq_false, Bool.false_eq_true, reduceIte, pick_eq, at3_0, at3_1, at3_2, ix3_0, ix3_1, ix3_2, ↓eqM_ii, ↓eqM_ni, ↓eqM_in, ↓eqM_ss, ↓neM_ii, ↓neM_ss, backE, oldS, ↓loopK_nx, ↓loopK_rt, ↓forL_nil, ↓forL_cons, sl0, sl1, sl2, sl3, sl4, sl5, sl6, sl7, sl8, forall_const, sm0, sm1, sm2, sm3, sm4, sm5, sm6, sm7, sm8, wipeE, ↓compL_n, ↓compL_c, ↓compM_ap, List.filterMap_cons, List.filterMap_nil, ↓odixM, ↓odinM, ↓odic, ↓asDi, ↓DL.keyD, ↓un1O, ↓listO, ↓tryM, ↓sortD, ↓DL.max1D, ↓otupV, ↓backM, ↓dictO, ↓maxTD, ↓oidxM, ↓lenRg, ↓lenR]) (by show 13 ≤ 1000000; decide) rfl (fun d hd => ⟨[v0, v1, v2, .im (.hall g s), v4, v5, v6, .im (.lst (thingsL g s)), .no, .im d], rfl, fun Q E => rfl, fun Q E => rfl, fun _ Q E => by
      have h1 := fun env Q E => heq_hd C neg g s d (things_ok d hd) env Q E
      have h2 := fun env Q E => heq_dh C neg g s d (things_ok d hd) env Q E
      cases left
      · show do2 (dVar 9) (dVar 3) (heqM (f_Hall_eq C) neg) _ Q E = _
        simp only [↓h2, ↓bnd_ap, ↓ret_ap, ↓ask_ap, ↓fail_ap, ↓ite_ap, ↓dVar, ↓getO, ↓putO, ↓setI, ↓setO, ↓takeO, ↓frzV, getElem?_0, getElem?_s, List.set_cons_zero, List.set_cons_succ, ↓seqM, ↓seqK, ↓thenN, ↓ifM, ↓andB, ↓orB, ↓notB, ↓andV, ↓orV, ↓notV, ↓asB, ↓do2, ↓chM, ↓consM, ↓consD, ↓consO, ↓tupM, ↓lstM, ↓olstM, ↓frzM, ↓resD, ↓resO, ↓callN, ↓callA, ↓allD, ↓split1, ↓callD, ↓call1, ↓callK, ↓ioAt, ↓putS, ↓finA, ↓defM, ↓un1, ↓un2, ↓truD, ↓isiD, D.kind, CT.is, ↓ltD, ↓leD, ↓gtD, ↓geD, ↓addD, ↓subD, ↓mulD, ↓modD, ↓fdivD, ↓powD, ↓isNonD, ↓notNonD, ↓negD, ↓lenD, ↓absD, ↓DL.intD, ↓max2D, ↓min2D, ↓divD, ↓tupD, ↓hgM, ↓hsM, ↓hcallM, ↓oixM, ↓olist, ↓asL, ↓ixL, ↓olenM, ↓oappM, ↓osetM, ↓opopM, ↓oremM, ↓oinM, ↓oset, ↓asS, ↓oaddM, ↓osinM, ↓otupM, ↓tRgM, ↓lRgM, ↓asgM, ↓setTw, ↓setKs, ↓setTup, ↓setIs, ↓parM, ↓setVs, ↓setV, ↓vD, ↓vO, ↓oins, ↓asI, ↓fsetM, putFD, ↓hallM, hallOf, ↓mkM, ↓DL.forM, ↓itR1, ↓itR2, ↓itLst, ↓itTup, ↓enTup, ↓enLst, ↓partM, ↓slM, ↓asT, ↓tidxM, Option.map, List.map_cons, List.map_nil, List.cons_append, List.nil_append, List.length_cons, List.length_nil, List.replicate, Nat.reduceAdd, Nat.reduceSub, Nat.sub_self, Bool.not_true, Bool.not_false, ↓if_true, ↓if_false, ↓ite_true, ↓ite_false, true_and, and_true, Bool.true_eq_false, Bool.false_eq_true, reduceIte, pick_eq, at3_0, at3_1, at3_2, ix3_0, ix3_1, ix3_2, ↓eqM_ii, ↓eqM_ni, ↓eqM_in, ↓eqM_ss, ↓neM_ii, ↓neM_ss, backE, oldS, ↓loopK_nx, ↓loopK_rt, ↓forL_nil, ↓forL_cons, sl0, sl1, sl2, sl3, sl4, sl5, sl6, sl7, sl8, forall_const, sm0, sm1, sm2, sm3, sm4, sm5, sm6, sm7, sm8, wipeE, ↓compL_n, ↓compL_c, ↓compM_ap, List.filterMap_cons, List.filterMap_nil, ↓odixM, ↓odinM, ↓odic, ↓asDi, ↓DL.keyD, ↓un1O, ↓listO, ↓tryM, ↓sortD, ↓DL.max1D, ↓otupV, ↓backM, ↓dictO, ↓maxTD, ↓oidxM, ↓lenRg, ↓lenR]
      · show do2 (dVar 3) (dVar 9) (heqM (f_Hall_eq C) neg) _ Q E = _
        simp only [↓h1, ↓bnd_ap, ↓ret_ap, ↓ask_ap, ↓fail_ap, ↓ite_ap, ↓dVar, ↓getO, ↓putO, ↓setI, ↓setO, ↓takeO, ↓frzV, getElem?_0, getElem?_s, List.set_cons_zero, List.set_cons_succ, ↓seqM, ↓seqK, ↓thenN, ↓ifM, ↓andB, ↓orB, ↓notB, ↓andV, ↓orV, ↓notV, ↓asB, ↓do2, ↓chM, ↓consM, ↓consD, ↓consO, ↓tupM, ↓lstM, ↓olstM, ↓frzM, ↓resD, ↓resO, ↓callN, ↓callA, ↓allD, ↓split1, ↓callD, ↓call1, ↓callK, ↓ioAt, ↓putS, ↓finA, ↓defM, ↓un1, ↓un2, ↓truD, ↓isiD, D.kind, CT.is, ↓ltD, ↓leD, ↓gtD, ↓geD, ↓addD, ↓subD, ↓mulD, ↓modD, ↓fdivD, ↓powD, ↓isNonD, ↓notNonD, ↓negD, ↓lenD, ↓absD, ↓DL.intD, ↓max2D, ↓min2D, ↓divD, ↓tupD, ↓hgM, ↓hsM, ↓hcallM, ↓oixM, ↓olist, ↓asL, ↓ixL, ↓olenM, ↓oappM, ↓osetM, ↓opopM, ↓oremM, ↓oinM, ↓oset, ↓asS, ↓oaddM, ↓osinM, ↓otupM, ↓tRgM, ↓lRgM, ↓asgM, ↓setTw, ↓setKs, ↓setTup, ↓setIs, ↓parM, ↓setVs, ↓setV, ↓vD, ↓vO, ↓oins, ↓asI, ↓fsetM, putFD, ↓hallM, hallOf, ↓mkM, ↓DL.forM, ↓itR1, ↓itR2, ↓itLst, ↓itTup, ↓enTup, ↓enLst, ↓partM, ↓slM, ↓asT, ↓tidxM, Option.map, List.map_cons, List.map_nil, List.cons_append, List.nil_append, List.length_cons, List.length_nil, List.replicate, Nat.reduceAdd, Nat.reduceSub, Nat.sub_self, Bool.not_true, Bool.not_false, ↓if_true, ↓if_false, ↓ite_true, ↓ite_false, true_and, and_true, Bool.true_eq_false, Bool.false_eq_true, reduceIte, pick_eq, at3_0, at3_1, at3_2, ix3_0, ix3_1, ix3_2, ↓eqM_ii, ↓eqM_ni, ↓eqM_in, ↓eqM_ss, ↓neM_ii, ↓neM_ss, backE, oldS, ↓loopK_nx, ↓loopK_rt, ↓forL_nil, ↓forL_cons, sl0, sl1, sl2, sl3, sl4, sl5, sl6, sl7, sl8, forall_const, sm0, sm1, sm2, sm3, sm4, sm5, sm6, sm7, sm8, wipeE, ↓compL_n, ↓compL_c, ↓compM_ap, List.filterMap_cons, List.filterMap_nil, ↓odixM, ↓odinM, ↓odic, ↓asDi, ↓DL.keyD, ↓un1O, ↓listO, ↓tryM, ↓sortD, ↓DL.max1D, ↓otupV, ↓backM, ↓dictO, ↓maxTD, ↓oidxM, ↓lenRg, ↓lenR]⟩) Q E
  rw [List.filter_eq_self.mpr fun _ _ => rfl] at this
  exact this
theorem tw10_ap (v0 v1 v2 v4 v5 v6 : DL.Slot) (Q E) : tw10 C [v0, v1, v2, .im (.hall g s), v4, v5, v6, .im (.lst (thingsL g s)), .no, .no] Q E =
    Q .nx [v0, v1, v2, .im (.hall g s), v4, v5, v6, .im (.lst (thingsL g s)), .no, .no] := by
  have q1 : ∀ Q E, c_Ltwo_right_3 C [v0, v1, v2, .im (.hall g s), v4, v5, v6, .im (.lst (thingsL g s)), .no, .no] Q E = Q (.lst ((thingsL g s).map fun _ => .bl false)) [v0, v1, v2, .im (.hall g s), v4, v5, v6, .im (.lst (thingsL g s)), .no, .no] := q_things C false false v0 v1 v2 v4 v5 v6
  have q2 : ∀ Q E, c_Ltwo_right_4 C [v0, v1, v2, .im (.hall g s), v4, v5, v6, .im (.lst (thingsL g s)), .no, .no] Q E = Q (.lst ((thingsL g s).map fun _ => .bl true)) [v0, v1, v2, .im (.hall g s), v4, v5, v6, .im (.lst (thingsL g s)), .no, .no] := q_things C true false v0 v1 v2 v4 v5 v6
  simp only [↓tw10, ↓q1, ↓q2, ↓any_no, ↓all_yes, ↓bnd_ap, ↓ret_ap, ↓ask_ap, ↓fail_ap, ↓ite_ap, ↓dVar, ↓getO, ↓putO, ↓setI, ↓setO, ↓takeO, ↓frzV, getElem?_0, getElem?_s, List.set_cons_zero, List.set_cons_succ, ↓seqM, ↓seqK, ↓thenN, ↓ifM, ↓andB, ↓orB, ↓notB, ↓andV, ↓orV, ↓notV, ↓asB, ↓do2, ↓chM, ↓consM, ↓consD, ↓consO, ↓tupM, ↓lstM, ↓olstM, ↓frzM, ↓resD, ↓resO, ↓callN, ↓callA, ↓allD, ↓split1, ↓callD, ↓call1, ↓callK, ↓ioAt, ↓putS, ↓finA, ↓defM, ↓un1, ↓un2, ↓truD, ↓isiD, D.kind, CT.is, ↓ltD, ↓leD, ↓gtD, ↓geD, ↓addD, ↓subD, ↓mulD, ↓modD, ↓fdivD, ↓powD, ↓isNonD, ↓notNonD, ↓negD, ↓lenD, ↓absD, ↓DL.intD, ↓max2D, ↓min2D, ↓divD, ↓tupD, ↓hgM, ↓hsM, ↓hcallM, ↓oixM, ↓olist, ↓asL, ↓ixL, ↓olenM, ↓oappM, ↓osetM, ↓opopM, ↓oremM, ↓oinM, ↓oset, ↓asS, ↓oaddM, ↓osinM, ↓otupM, ↓tRgM, ↓lRgM, ↓asgM, ↓setTw, ↓setKs, ↓setTup, ↓setIs, ↓parM, ↓setVs, ↓setV, ↓vD, ↓vO, ↓oins, ↓asI, ↓fsetM, putFD, ↓hallM, hallOf, ↓mkM, ↓DL.forM, ↓itR1, ↓itR2, ↓itLst, ↓itTup, ↓enTup, ↓enLst, ↓partM, ↓slM, ↓asT, ↓tidxM, Option.map, List.map_cons, List.map_nil, List.cons_append, List.nil_append, List.length_cons, List.length_nil, List.replicate, Nat.reduceAdd, Nat.reduceSub, Nat.sub_self, Bool.not_true, Bool.not_false, ↓if_true, ↓if_false, ↓ite_true, ↓ite_false, true_and, and_true, Bool.true_eq_false, Bool.false_eq_true, reduceIte, pick_eq, at3_0, at3_1, at3_2, ix3_0, ix3_1, ix3_2, ↓eqM_ii, ↓eqM_ni, ↓eqM_in, ↓eqM_ss, ↓neM_ii, ↓neM_ss, backE, oldS, ↓loopK_nx, ↓loopK_rt, ↓forL_nil, ↓forL_cons, sl0, sl1, sl2, sl3, sl4, sl5, sl6, sl7, sl8, forall_const, sm0, sm1, sm2, sm3, sm4, sm5, sm6, sm7, sm8, wipeE, ↓compL_n, ↓compL_c, ↓compM_ap, List.filterMap_cons, List.filterMap_nil, ↓odixM, ↓odinM, ↓odic, ↓asDi, ↓DL.keyD, ↓un1O, ↓listO, ↓tryM, ↓sortD, ↓DL.max1D, ↓otupV, ↓backM, ↓dictO, ↓maxTD, ↓oidxM, ↓lenRg, ↓lenR]
theorem tw11_ap (v0 v1 v2 v4 v5 v6 : DL.Slot) (Q E) : tw11 C [v0, v1, v2, .im (.hall g s), v4, v5, v6, .im (.lst (thingsL g s)), .no, .no] Q E =
    Q (.rt (.d (.bl true))) [v0, v1, v2, .im (.hall g s), v4, v5, v6, .im (.lst (thingsL g s)), .no, .no] := by
  have q1 : ∀ Q E, c_Ltwo_right_5 C [v0, v1, v2, .im (.hall g s), v4, v5, v6, .im (.lst (thingsL g s)), .no, .no] Q E = Q (.lst ((thingsL g s).map fun _ => .bl false)) [v0, v1, v2, .im (.hall g s), v4, v5, v6, .im (.lst (thingsL g s)), .no, .no] := q_things C false true v0 v1 v2 v4 v5 v6
  have q2 : ∀ Q E, c_Ltwo_right_6 C [v0, v1, v2, .im (.hall g s), v4, v5, v6, .im (.lst (thingsL g s)), .no, .no] Q E = Q (.lst ((thingsL g s).map fun _ => .bl true)) [v0, v1, v2, .im (.hall g s), v4, v5, v6, .im (.lst (thingsL g s)), .no, .no] := q_things C true true v0 v1 v2 v4 v5 v6
  simp only [↓tw11, ↓q1, ↓q2, ↓any_no, ↓all_yes, ↓bnd_ap, ↓ret_ap, ↓ask_ap, ↓fail_ap, ↓ite_ap, ↓dVar, ↓getO, ↓putO, ↓setI, ↓setO, ↓takeO, ↓frzV, getElem?_0, getElem?_s, List.set_cons_zero, List.set_cons_succ, ↓seqM, ↓seqK, ↓thenN, ↓ifM, ↓andB, ↓orB, ↓notB, ↓andV, ↓orV, ↓notV, ↓asB, ↓do2, ↓chM, ↓consM, ↓consD, ↓consO, ↓tupM, ↓lstM, ↓olstM, ↓frzM, ↓resD, ↓resO, ↓callN, ↓callA, ↓allD, ↓split1, ↓callD, ↓call1, ↓callK, ↓ioAt, ↓putS, ↓finA, ↓defM, ↓un1, ↓un2, ↓truD, ↓isiD, D.kind, CT.is, ↓ltD, ↓leD, ↓gtD, ↓geD, ↓addD, ↓subD, ↓mulD, ↓modD, ↓fdivD, ↓powD, ↓isNonD, ↓notNonD, ↓negD, ↓lenD, ↓absD, ↓DL.intD, ↓max2D, ↓min2D, ↓divD, ↓tupD, ↓hgM, ↓hsM, ↓hcallM, ↓oixM, ↓olist, ↓asL, ↓ixL, ↓olenM, ↓oappM, ↓osetM, ↓opopM, ↓oremM, ↓oinM, ↓oset, ↓asS, ↓oaddM, ↓osinM, ↓otupM, ↓tRgM, ↓lRgM, ↓asgM, ↓setTw, ↓setKs, ↓setTup, ↓setIs, ↓parM, ↓setVs, ↓setV, ↓vD, ↓vO, ↓oins, ↓asI, ↓fsetM, putFD, ↓hallM, hallOf, ↓mkM, ↓DL.forM, ↓itR1, ↓itR2, ↓itLst, ↓itTup, ↓enTup, ↓enLst, ↓partM, ↓slM, ↓asT, ↓tidxM, Option.map, List.map_cons, List.map_nil, List.cons_append, List.nil_append, List.length_cons, List.length_nil, List.replicate, Nat.reduceAdd, Nat.reduceSub, Nat.sub_self, Bool.not_true, Bool.not_false, ↓if_true, ↓if_false, ↓ite_true, ↓ite_false, true_and, and_true, Bool.true_eq_false, Bool.false_eq_true, reduceIte, pick_eq, at3_0, at3_1, at3_2, ix3_0, ix3_1, ix3_2, ↓eqM_ii, ↓eqM_ni, ↓eqM_in, ↓eqM_ss, ↓neM_ii, ↓neM_ss, backE, oldS, ↓loopK_nx, ↓loopK_rt, ↓forL_nil, ↓forL_cons, sl0, sl1, sl2, sl3, sl4, sl5, sl6, sl7, sl8, forall_const, sm0, sm1, sm2, sm3, sm4, sm5, sm6, sm7, sm8, wipeE, ↓compL_n, ↓compL_c, ↓compM_ap, List.filterMap_cons, List.filterMap_nil, ↓odixM, ↓odinM, ↓odic, ↓asDi, ↓DL.keyD, ↓un1O, ↓listO, ↓tryM, ↓sortD, ↓DL.max1D, ↓otupV, ↓backM, ↓dictO, ↓maxTD, ↓oidxM, ↓lenRg, ↓lenR]
end
theorem seq_assoc (a b c : M DL.Fl) : seqM a (seqM b c) = seqM (seqM a b) c := by
  funext env Q E
  show a env (fun f env' => seqK (seqM b c) f env' Q E) E = a env (fun f env' => seqK b f env' (fun f2 env2 => seqK c f2 env2 Q E) E) E
  congr 1
  funext f env'
  cases f <;> rfl
def twB (C : Addr) : M DL.Fl := seqM (tw2 C) (tw3 C)
def twD (C : Addr) : M DL.Fl := seqM (tw5 C) (seqM (tw6 C) (tw7 C))
theorem two_eq (C : Addr) : m_Ltwo_right C = seqM (tw1 C) (seqM (twB C) (seqM (tw4 C) (seqM (twD C) (seqM (tw8 C) (seqM (tw9 C) (seqM (tw10 C) (tw11 C))))))) := by
  unfold twB twD
  simp only [tweq, seq_assoc]
theorem p_two (C : Addr) (p : Pl) : ∃ p' : Pl, ∀ (x : Addr) Q E, f_Ltwo_right C [.io x p.o] Q E = Q (.d (.bl true)) [.io x p'.o] := by
  have hu : (1 : Int) ≤ 6 ∧ (6 : Int) ≤ 24 := by decide
  have sz := fun (x : Addr) (p : Pl) => p_sizes C x hu p
  obtain ⟨q, hq⟩ : ∃ q, q = (szB 6 p).2 := ⟨_, rfl⟩
  have hg := szA_bd hu p
  have hs := szB_bd 6 p
  have hg' := szA_bd hu q
  have hs' := szB_bd 6 q
  refine ⟨(szB 6 q).2, fun x Q E => ?_⟩
  have t1 : ∀ Q E, tw1 C [.io x p.o, .no, .no, .no, .no, .no, .no, .no, .no, .no] Q E = Q .nx [.io x (szB 6 q).2.o, .im (.tup [.int (szA 6 p).1, .int (szB 6 p).1]), .im (.tup [.int (szA 6 q).1, .int (szB 6 q).1]), .no, .no, .no, .no, .no, .no, .no] := fun Q E => by
    subst hq
    simp only [↓tw1, ↓sz, ↓bnd_ap, ↓ret_ap, ↓ask_ap, ↓fail_ap, ↓ite_ap, ↓dVar, ↓getO, ↓putO, ↓setI, ↓setO, ↓takeO, ↓frzV, getElem?_0, getElem?_s, List.set_cons_zero, List.set_cons_succ, ↓seqM, ↓seqK, ↓thenN, ↓ifM, ↓andB, ↓orB, ↓notB, ↓andV, ↓orV, ↓notV, ↓asB, ↓do2, ↓chM, ↓consM, ↓consD, ↓consO, ↓tupM, ↓lstM, ↓olstM, ↓frzM, ↓resD, ↓resO, ↓callN, ↓callA, ↓allD, ↓split1, ↓callD, ↓call1, ↓callK, ↓ioAt, ↓putS, ↓finA, ↓defM, ↓un1, ↓un2, ↓truD, ↓isiD, D.kind, CT.is, ↓ltD, ↓leD, ↓gtD, ↓geD, ↓addD, ↓subD, ↓mulD, ↓modD, ↓fdivD, ↓powD, ↓isNonD, ↓notNonD, ↓negD, ↓lenD, ↓absD, ↓DL.intD, ↓max2D, ↓min2D, ↓divD, ↓tupD, ↓hgM, ↓hsM, ↓hcallM, ↓oixM, ↓olist, ↓asL, ↓ixL, ↓olenM, ↓oappM, ↓osetM, ↓opopM, ↓oremM, ↓oinM, ↓oset, ↓asS, ↓oaddM, ↓osinM, ↓otupM, ↓tRgM, ↓lRgM, ↓asgM, ↓setTw, ↓setKs, ↓setTup, ↓setIs, ↓parM, ↓setVs, ↓setV, ↓vD, ↓vO, ↓oins, ↓asI, ↓fsetM, putFD, ↓hallM, hallOf, ↓mkM, ↓DL.forM, ↓itR1, ↓itR2, ↓itLst, ↓itTup, ↓enTup, ↓enLst, ↓partM, ↓slM, ↓asT, ↓tidxM, Option.map, List.map_cons, List.map_nil, List.cons_append, List.nil_append, List.length_cons, List.length_nil, List.replicate, Nat.reduceAdd, Nat.reduceSub, Nat.sub_self, Bool.not_true, Bool.not_false, ↓if_true, ↓if_false, ↓ite_true, ↓ite_false, true_and, and_true, Bool.true_eq_false, Bool.false_eq_true, reduceIte, pick_eq, at3_0, at3_1, at3_2, ix3_0, ix3_1, ix3_2, ↓eqM_ii, ↓eqM_ni, ↓eqM_in, ↓eqM_ss, ↓neM_ii, ↓neM_ss, backE, oldS, ↓loopK_nx, ↓loopK_rt, ↓forL_nil, ↓forL_cons, sl0, sl1, sl2, sl3, sl4, sl5, sl6, sl7, sl8, forall_const, sm0, sm1, sm2, sm3, sm4, sm5, sm6, sm7, sm8, wipeE, ↓compL_n, ↓compL_c, ↓compM_ap, List.filterMap_cons, List.filterMap_nil, ↓odixM, ↓odinM, ↓odic, ↓asDi, ↓DL.keyD, ↓un1O, ↓listO, ↓tryM, ↓sortD, ↓DL.max1D, ↓otupV, ↓backM, ↓dictO, ↓maxTD, ↓oidxM, ↓lenRg, ↓lenR]
  generalize (szA 6 p).1 = g at *
  generalize (szB 6 p).1 = s at *
  generalize (szA 6 q).1 = g' at *
  generalize (szB 6 q).1 = s' at *
  have hg : 1 ≤ g ∧ g ≤ 24 := hg
  have t23 : ∀ Q E, twB C _ Q E = _ := tw23 C hg hs hg' hs' (.io x (szB 6 q).2.o)
  have t4 := tw4_ap C (g := g) (s := s) (g' := g') (s' := s')
  have t5 : ∀ v0 v2 v4 v5 v7 v8 v9 Q E, twD C _ Q E = _ := tw567 C hg hs
  have t8 := tw8_ap C hg hs
  have t9 := tw9_ap C hg hs
  have t10 := tw10_ap C (g := g) (s := s)
  have t11 := tw11_ap C (g := g) (s := s)
  simp only [↓f_Ltwo_right, ↓two_eq, ↓t1, ↓t23, ↓t4, ↓t5, ↓t8, ↓t9, ↓t10, ↓t11, ↓bnd_ap, ↓ret_ap, ↓ask_ap, ↓fail_ap, ↓ite_ap, ↓dVar, ↓getO, ↓putO, ↓setI, ↓setO, ↓takeO, ↓frzV, getElem?_0, getElem?_s, List.set_cons_zero, List.set_cons_succ, ↓seqM, ↓seqK, ↓thenN, ↓ifM, ↓andB, ↓orB, ↓notB, ↓andV, ↓orV, ↓notV, ↓asB, ↓do2, ↓chM, ↓consM, ↓consD, ↓consO, ↓tupM, ↓lstM, ↓olstM, ↓frzM, ↓resD, ↓resO, ↓callN, ↓callA, ↓allD, ↓split1, ↓callD, ↓call1, ↓callK, ↓ioAt, ↓putS, ↓finA, ↓defM, ↓un1, ↓un2, ↓truD, ↓isiD, D.kind, CT.is, ↓ltD, ↓leD, ↓gtD, ↓geD, ↓addD, ↓subD, ↓mulD, ↓modD, ↓fdivD, ↓powD, ↓isNonD, ↓notNonD, ↓negD, ↓lenD, ↓absD, ↓DL.intD, ↓max2D, ↓min2D, ↓divD, ↓tupD, ↓hgM, ↓hsM, ↓hcallM, ↓oixM, ↓olist, ↓asL, ↓ixL, ↓olenM, ↓oappM, ↓osetM, ↓opopM, ↓oremM, ↓oinM, ↓oset, ↓asS, ↓oaddM, ↓osinM, ↓otupM, ↓tRgM, ↓lRgM, ↓asgM, ↓setTw, ↓setKs, ↓setTup, ↓setIs, ↓parM, ↓setVs, ↓setV, ↓vD, ↓vO, ↓oins, ↓asI, ↓fsetM, putFD, ↓hallM, hallOf, ↓mkM, ↓DL.forM, ↓itR1, ↓itR2, ↓itLst, ↓itTup, ↓enTup, ↓enLst, ↓partM, ↓slM, ↓asT, ↓tidxM, Option.map, List.map_cons, List.map_nil, List.cons_append, List.nil_append, List.length_cons, List.length_nil, List.replicate, Nat.reduceAdd, Nat.reduceSub, Nat.sub_self, Bool.not_true, Bool.not_false, ↓if_true, ↓if_false, ↓ite_true, ↓ite_false, true_and, and_true, Bool.true_eq_false, Bool.false_eq_true, reduceIte, pick_eq, at3_0, at3_1, at3_2, ix3_0, ix3_1, ix3_2, ↓eqM_ii, ↓eqM_ni, ↓eqM_in, ↓eqM_ss, ↓neM_ii, ↓neM_ss, backE, oldS, ↓loopK_nx, ↓loopK_rt, ↓forL_nil, ↓forL_cons, sl0, sl1, sl2, sl3, sl4, sl5, sl6, sl7, sl8, forall_const, sm0, sm1, sm2, sm3, sm4, sm5, sm6, sm7, sm8, wipeE, ↓compL_n, ↓compL_c, ↓compM_ap, List.filterMap_cons, List.filterMap_nil, ↓odixM, ↓odinM, ↓odic, ↓asDi, ↓DL.keyD, ↓un1O, ↓listO, ↓tryM, ↓sortD, ↓DL.max1D, ↓otupV, ↓backM, ↓dictO, ↓maxTD, ↓oidxM, ↓lenRg, ↓lenR]
end DLP

set_option Elab.async false
set_option linter.all false
set_option maxRecDepth 100000
set_option maxHeartbeats 4000000
namespace DLP
open PySem PySem.Spec PyProof.Rows L2 DL MW
/-! ### the law -/
def la1 (C : Addr) : M DL.Fl := ifM (do2 (bnd (consM (lstM (consM (DL.ret (.int 24)) (consM (DL.ret (.int 6)) (consM (DL.ret (.int 1000000000000000000000000000000)) (DL.ret []))))) (DL.ret [])) (un1 reprE)) (bnd (consM (lstM (consM (DL.ret (.int 24)) (consM (DL.ret (.int 6)) (consM (do2 (DL.ret (.int 10)) (DL.ret (.int 30)) powD) (DL.ret []))))) (DL.ret [])) (un1 reprE)) fun x y => bnd (neM x y) asB) (bnd (DL.ret (.bl false)) fun d => DL.ret (.rt (.d d))) (DL.ret .nx)
def la2 (C : Addr) : M DL.Fl := forM (bnd (consM (DL.ret (.int 1)) (consM (DL.ret (.int 25)) (DL.ret []))) itR2) (setI 1) (b_law_2 C)
def la3 (C : Addr) : M DL.Fl := forM (bnd (consM (bnd (consM (DL.ret (.int 2)) (consM (bnd (consM (bnd (consM (dVar 0) (DL.ret [])) (un1 lenD)) (consM (DL.ret (.int 6)) (DL.ret []))) (un2 min2D)) (DL.ret []))) (un2 max2D)) (DL.ret [])) itR1) (setI 2) (b_law_4 C)
def la4 (C : Addr) : M DL.Fl := bnd (DL.ret (.bl true)) fun d => DL.ret (.rt (.d d))
theorem laeq (C : Addr) : m_law C = seqM (la1 C) (seqM (la2 C) (seqM (la3 C) (la4 C))) := rfl
theorem la1_ap (C : Addr) (v0 v1 v2 v3 v4 v5 : DL.Slot) (Q E) : la1 C [v0, v1, v2, v3, v4, v5] Q E = Q .nx [v0, v1, v2, v3, v4, v5] := by
  have e30 : (1000000000000000000000000000000 : Int) = 10 ^ 30 := by decide +kernel
  have far : ShP (.int (10 ^ 30)) 0 60 := ⟨rfl, by decide +kernel, rfl, by decide +kernel, by decide, by decide⟩
  have sh := fun env Q E => (ShP.lst (ds := [.int 24, .int 6, .int (10 ^ 30)]) (n := 0) (b := 60) (fun d hd => by
    simp only [List.mem_cons, List.not_mem_nil, or_false] at hd
    rcases hd with e | e | e <;> subst e
    · exact (shP_int (by decide)).mono (by decide) (by decide)
    · exact (shP_int (by decide)).mono (by decide) (by decide)
    · exact far)).rep rfl (by decide) (by show (60 + 1) * 3 ≤ _; decide) env Q E
  have ee : ∀ t : Str, (t == t) = true := fun t => beq_self_eq_true _
  unfold la1
  rw [e30]
  simp only [↓pow30, ↓sh, ee, ↓bnd_ap, ↓ret_ap, ↓ask_ap, ↓fail_ap, ↓ite_ap, ↓dVar, ↓getO, ↓putO, ↓setI, ↓setO, ↓takeO, ↓frzV, getElem?_0, getElem?_s, List.set_cons_zero, List.set_cons_succ, ↓seqM, ↓seqK, ↓thenN, ↓ifM, ↓andB, ↓orB, ↓notB, ↓andV, ↓orV, ↓notV, ↓asB, ↓do2, ↓chM, ↓consM, ↓consD, ↓consO, ↓tupM, ↓lstM, ↓olstM, ↓frzM, ↓resD, ↓resO, ↓callN, ↓callA, ↓allD, ↓split1, ↓callD, ↓call1, ↓callK, ↓ioAt, ↓putS, ↓finA, ↓defM, ↓un1, ↓un2, ↓truD, ↓isiD, D.kind, CT.is, ↓ltD, ↓leD, ↓gtD, ↓geD, ↓addD, ↓subD, ↓mulD, ↓modD, ↓fdivD, ↓isNonD, ↓notNonD, ↓negD, ↓lenD, ↓absD, ↓DL.intD, ↓max2D, ↓min2D, ↓divD, ↓tupD, ↓hgM, ↓hsM, ↓hcallM, ↓oixM, ↓olist, ↓asL, ↓ixL, ↓olenM, ↓oappM, ↓osetM, ↓opopM, ↓oremM, ↓oinM, ↓oset, ↓asS, ↓oaddM, ↓osinM, ↓otupM, ↓tRgM, ↓lRgM, ↓asgM, ↓setTw, ↓setKs, ↓setTup, ↓setIs, ↓parM, ↓setVs, ↓setV, ↓vD, ↓vO, ↓oins, ↓asI, ↓fsetM, putFD, ↓hallM, hallOf, ↓mkM, ↓DL.forM, ↓itR1, ↓itR2, ↓itLst, ↓itTup, ↓enTup, ↓enLst, ↓partM, ↓slM, ↓asT, ↓tidxM, Option.map, List.map_cons, List.map_nil, List.cons_append, List.nil_append, List.length_cons, List.length_nil, List.replicate, Nat.reduceAdd, Nat.reduceSub, Nat.sub_self, Bool.not_true, Bool.not_false, ↓if_true, ↓if_false, ↓ite_true, ↓ite_false, true_and, and_true, Bool.true_eq_false, Bool.false_eq_true, reduceIte, pick_eq, at3_0, at3_1, at3_2, ix3_0, ix3_1, ix3_2, ↓eqM_ii, ↓eqM_ni, ↓eqM_in, ↓eqM_ss, ↓neM_ii, ↓neM_ss, backE, oldS, ↓loopK_nx, ↓loopK_rt, ↓forL_nil, ↓forL_cons, sl0, sl1, sl2, sl3, sl4, sl5, sl6, sl7, sl8, forall_const, sm0, sm1, sm2, sm3, sm4, sm5, sm6, sm7, sm8, wipeE, ↓compL_n, ↓compL_c, ↓compM_ap, List.filterMap_cons, List.filterMap_nil, ↓odixM, ↓odinM, ↓odic, ↓asDi, ↓DL.keyD, ↓un1O, ↓listO, ↓tryM, ↓sortD, ↓DL.max1D, ↓otupV, ↓backM, ↓dictO, ↓maxTD, ↓oidxM, ↓lenRg, ↓lenR]
theorem q_one (C : Addr) (v0 v2 v3 : DL.Slot) (h : Int) (hh : 1 ≤ h ∧ h ≤ 24) (Q E) : c_law_1 C [v0, .im (.int h), v2, v3, .no, .no] Q E = Q (.lst ((nums 7).map fun _ => .bl true)) [v0, .im (.int h), v2, v3, .no, .no] := by
  have b1 : -(2 ^ 62) ≤ (7 : Int) ∧ (7 : Int) < 2 ^ 62 := by decide
  have := comp_pure (items := bnd (consM (DL.ret (.int 7)) (DL.ret [])) itR1) (tg := setI 4) (vs := [4]) (cond := DL.ret true) (elt := bnd (bnd (consD (dVar 1) (consD (dVar 4) (DL.ret []))) (callN 2 (f_Lone_right C))) resD) (env := [v0, .im (.int h), v2, v3, .no, .no]) (nums 7) D.int (fun _ => true) (fun _ => .bl true) (fun Q E => by
    simp only [b1, range_nums, ↓bnd_ap, ↓ret_ap, ↓ask_ap, ↓fail_ap, ↓ite_ap, ↓dVar, ↓getO, ↓putO, ↓setI, ↓setO, ↓takeO, ↓frzV, getElem?_0, getElem?_s, List.set_cons_zero, List.set_cons_succ, ↓seqM, ↓seqK, ↓thenN, ↓ifM, ↓andB, ↓orB, ↓notB, ↓andV, ↓orV, ↓notV, ↓asB, ↓do2, ↓chM, ↓consM, ↓consD, ↓consO, ↓tupM, ↓lstM, ↓olstM, ↓frzM, ↓resD, ↓resO, ↓callN, ↓callA, ↓allD, ↓split1, ↓callD, ↓call1, ↓callK, ↓ioAt, ↓putS, ↓finA, ↓defM, ↓un1, ↓un2, ↓truD, ↓isiD, D.kind, CT.is, ↓ltD, ↓leD, ↓gtD, ↓geD, ↓addD, ↓subD, ↓mulD, ↓modD, ↓fdivD, ↓powD, ↓isNonD, ↓notNonD, ↓negD, ↓lenD, ↓absD, ↓DL.intD, ↓max2D, ↓min2D, ↓divD, ↓tupD, ↓hgM, ↓hsM, ↓hcallM, ↓oixM, ↓olist, ↓asL, ↓ixL, ↓olenM, ↓oappM, ↓osetM, ↓opopM, ↓oremM, ↓oinM, ↓oset, ↓asS, ↓oaddM, ↓osinM, ↓otupM, ↓tRgM, ↓lRgM, ↓asgM, ↓setTw, ↓setKs, ↓setTup, ↓setIs, ↓parM, ↓setVs, ↓setV, ↓vD, ↓vO, ↓oins, ↓asI, ↓fsetM, putFD, ↓hallM, hallOf, ↓mkM, ↓DL.forM, ↓itR1, ↓itR2, ↓itLst, ↓itTup, ↓enTup, ↓enLst, ↓partM, ↓slM, ↓asT, ↓tidxM, Option.map, List.map_cons, List.map_nil, List.cons_append, List.nil_append, List.length_cons, List.length_nil, List.replicate, Nat.reduceAdd, Nat.reduceSub, Nat.sub_self, Bool.not_true, Bool.not_false, ↓if_true, ↓if_false, ↓ite_true, ↓ite_false, true_and, and_true, Bool.true_eq_false, Bool.false_eq_true, reduceIte, pick_eq, at3_0, at3_1, at3_2, ix3_0, ix3_1, ix3_2, ↓eqM_ii, ↓eqM_ni, ↓eqM_in, ↓eqM_ss, ↓neM_ii, ↓neM_ss, backE, oldS, ↓loopK_nx, ↓loopK_rt, ↓forL_nil, ↓forL_cons, sl0, sl1, sl2, sl3, sl4, sl5, sl6, sl7, sl8, forall_const, sm0, sm1, sm2, sm3, sm4, sm5, sm6, sm7, sm8, wipeE, ↓compL_n, ↓compL_c, ↓compM_ap, List.filterMap_cons, List.filterMap_nil, ↓odixM, ↓odinM, ↓odic, ↓asDi, ↓DL.keyD, ↓un1O, ↓listO, ↓tryM, ↓sortD, ↓DL.max1D, ↓otupV, ↓backM, ↓dictO, ↓maxTD, ↓oidxM, ↓lenRg, ↓lenR]) (by rw [nums_len]; decide) rfl (fun i hi => ⟨[v0, .im (.int h), v2, v3, .im (.int i), .no], rfl, fun Q E => rfl, fun Q E => rfl, fun _ Q E => by
      have hm := nums_mem.mp hi
      have p := p_one C h i hh (by omega)
      simp only [↓p, ↓bnd_ap, ↓ret_ap, ↓ask_ap, ↓fail_ap, ↓ite_ap, ↓dVar, ↓getO, ↓putO, ↓setI, ↓setO, ↓takeO, ↓frzV, getElem?_0, getElem?_s, List.set_cons_zero, List.set_cons_succ, ↓seqM, ↓seqK, ↓thenN, ↓ifM, ↓andB, ↓orB, ↓notB, ↓andV, ↓orV, ↓notV, ↓asB, ↓do2, ↓chM, ↓consM, ↓consD, ↓consO, ↓tupM, ↓lstM, ↓olstM, ↓frzM, ↓resD, ↓resO, ↓callN, ↓callA, ↓allD, ↓split1, ↓callD, ↓call1, ↓callK, ↓ioAt, ↓putS, ↓finA, ↓defM, ↓un1, ↓un2, ↓truD, ↓isiD, D.kind, CT.is, ↓ltD, ↓leD, ↓gtD, ↓geD, ↓addD, ↓subD, ↓mulD, ↓modD, ↓fdivD, ↓powD, ↓isNonD, ↓notNonD, ↓negD, ↓lenD, ↓absD, ↓DL.intD, ↓max2D, ↓min2D, ↓divD, ↓tupD, ↓hgM, ↓hsM, ↓hcallM, ↓oixM, ↓olist, ↓asL, ↓ixL, ↓olenM, ↓oappM, ↓osetM, ↓opopM, ↓oremM, ↓oinM, ↓oset, ↓asS, ↓oaddM, ↓osinM, ↓otupM, ↓tRgM, ↓lRgM, ↓asgM, ↓setTw, ↓setKs, ↓setTup, ↓setIs, ↓parM, ↓setVs, ↓setV, ↓vD, ↓vO, ↓oins, ↓asI, ↓fsetM, putFD, ↓hallM, hallOf, ↓mkM, ↓DL.forM, ↓itR1, ↓itR2, ↓itLst, ↓itTup, ↓enTup, ↓enLst, ↓partM, ↓slM, ↓asT, ↓tidxM, Option.map, List.map_cons, List.map_nil, List.cons_append, List.nil_append, List.length_cons, List.length_nil, List.replicate, Nat.reduceAdd, Nat.reduceSub, Nat.sub_self, Bool.not_true, Bool.not_false, ↓if_true, ↓if_false, ↓ite_true, ↓ite_false, true_and, and_true, Bool.true_eq_false, Bool.false_eq_true, reduceIte, pick_eq, at3_0, at3_1, at3_2, ix3_0, ix3_1, ix3_2, ↓eqM_ii, ↓eqM_ni, ↓eqM_in, ↓eqM_ss, ↓neM_ii, ↓neM_ss, backE, oldS, ↓loopK_nx, ↓loopK_rt, ↓forL_nil, ↓forL_cons, sl0, sl1, sl2, sl3, sl4, sl5, sl6, sl7, sl8, forall_const, sm0, sm1, sm2, sm3, sm4, sm5, sm6, sm7, sm8, wipeE, ↓compL_n, ↓compL_c, ↓compM_ap, List.filterMap_cons, List.filterMap_nil, ↓odixM, ↓odinM, ↓odic, ↓asDi, ↓DL.keyD, ↓un1O, ↓listO, ↓tryM, ↓sortD, ↓DL.max1D, ↓otupV, ↓backM, ↓dictO, ↓maxTD, ↓oidxM, ↓lenRg, ↓lenR]⟩) Q E
  rw [List.filter_eq_self.mpr fun _ _ => rfl] at this
  exact this
theorem turn1 (C : Addr) (v0 v2 v3 : DL.Slot) (h : Int) (hh : 1 ≤ h ∧ h ≤ 24) (Q E) : b_law_2 C [v0, .im (.int h), v2, v3, .no, .no] Q E = Q .nx [v0, .im (.int h), v2, v3, .no, .no] := by
  have q := q_one C v0 v2 v3 h hh
  simp only [↓b_law_2, ↓q, ↓all_yes, ↓bnd_ap, ↓ret_ap, ↓ask_ap, ↓fail_ap, ↓ite_ap, ↓dVar, ↓getO, ↓putO, ↓setI, ↓setO, ↓takeO, ↓frzV, getElem?_0, getElem?_s, List.set_cons_zero, List.set_cons_succ, ↓seqM, ↓seqK, ↓thenN, ↓ifM, ↓andB, ↓orB, ↓notB, ↓andV, ↓orV, ↓notV, ↓asB, ↓do2, ↓chM, ↓consM, ↓consD, ↓consO, ↓tupM, ↓lstM, ↓olstM, ↓frzM, ↓resD, ↓resO, ↓callN, ↓callA, ↓allD, ↓split1, ↓callD, ↓call1, ↓callK, ↓ioAt, ↓putS, ↓finA, ↓defM, ↓un1, ↓un2, ↓truD, ↓isiD, D.kind, CT.is, ↓ltD, ↓leD, ↓gtD, ↓geD, ↓addD, ↓subD, ↓mulD, ↓modD, ↓fdivD, ↓powD, ↓isNonD, ↓notNonD, ↓negD, ↓lenD, ↓absD, ↓DL.intD, ↓max2D, ↓min2D, ↓divD, ↓tupD, ↓hgM, ↓hsM, ↓hcallM, ↓oixM, ↓olist, ↓asL, ↓ixL, ↓olenM, ↓oappM, ↓osetM, ↓opopM, ↓oremM, ↓oinM, ↓oset, ↓asS, ↓oaddM, ↓osinM, ↓otupM, ↓tRgM, ↓lRgM, ↓asgM, ↓setTw, ↓setKs, ↓setTup, ↓setIs, ↓parM, ↓setVs, ↓setV, ↓vD, ↓vO, ↓oins, ↓asI, ↓fsetM, putFD, ↓hallM, hallOf, ↓mkM, ↓DL.forM, ↓itR1, ↓itR2, ↓itLst, ↓itTup, ↓enTup, ↓enLst, ↓partM, ↓slM, ↓asT, ↓tidxM, Option.map, List.map_cons, List.map_nil, List.cons_append, List.nil_append, List.length_cons, List.length_nil, List.replicate, Nat.reduceAdd, Nat.reduceSub, Nat.sub_self, Bool.not_true, Bool.not_false, ↓if_true, ↓if_false, ↓ite_true, ↓ite_false, true_and, and_true, Bool.true_eq_false, Bool.false_eq_true, reduceIte, pick_eq, at3_0, at3_1, at3_2, ix3_0, ix3_1, ix3_2, ↓eqM_ii, ↓eqM_ni, ↓eqM_in, ↓eqM_ss, ↓neM_ii, ↓neM_ss, backE, oldS, ↓loopK_nx, ↓loopK_rt, ↓forL_nil, ↓forL_cons, sl0, sl1, sl2, sl3, sl4, sl5, sl6, sl7, sl8, forall_const, sm0, sm1, sm2, sm3, sm4, sm5, sm6, sm7, sm8, wipeE, ↓compL_n, ↓compL_c, ↓compM_ap, List.filterMap_cons, List.filterMap_nil, ↓odixM, ↓odinM, ↓odic, ↓asDi, ↓DL.keyD, ↓un1O, ↓listO, ↓tryM, ↓sortD, ↓DL.max1D, ↓otupV, ↓backM, ↓dictO, ↓maxTD, ↓oidxM, ↓lenRg, ↓lenR]
theorem range_seg (a b : Int) : rangeL a b = (seg a b).map .int := by unfold rangeL seg; rw [List.map_map]; rfl
theorem la2_ap (C : Addr) (v0 : DL.Slot) : ∃ v1 : DL.Slot, (v1 = .no ∨ ∃ d, v1 = .im d) ∧ ∀ Q E, la2 C [v0, .no, .no, .no, .no, .no] Q E = Q .nx [v0, v1, .no, .no, .no, .no] := by
  have b1 : (-(2 ^ 62) ≤ (1 : Int) ∧ (1 : Int) < 2 ^ 62) ∧ -(2 ^ 62) ≤ (25 : Int) ∧ (25 : Int) < 2 ^ 62 := by decide
  obtain ⟨env', ⟨v1, rfl, h1⟩, run⟩ := for_run (ι := Unit) (tg := setI 1) (body := b_law_2 C) (ds := (seg 1 25).map .int) (env := fun _ => [v0, .no, .no, .no, .no, .no]) (fun k env => ∃ v1, env = (fun _ => [v0, v1, .no, .no, .no, .no]) ∧ (v1 = .no ∨ ∃ d, v1 = .im d)) ⟨.no, rfl, .inl rfl⟩ (by
    rintro k d env hk ⟨v1, rfl, h1⟩
    obtain ⟨i, hi, rfl⟩ := List.mem_map.mp (List.mem_of_getElem? hk)
    have hm := seg_mem.mp hi
    exact ⟨fun _ => [v0, .im (.int i), .no, .no, .no, .no], fun _ => [v0, .im (.int i), .no, .no, .no, .no], fun _ => setI_ok rfl (by rcases h1 with e | ⟨d, e⟩ <;> subst e <;> exact nofun), fun _ Q E => turn1 C v0 .no .no i (by omega) Q E, _, rfl, .inr ⟨_, rfl⟩⟩)
  refine ⟨v1, h1, fun Q E => ?_⟩
  have r := run ()
  simp only [↓la2, b1, range_seg, ↓r, ↓bnd_ap, ↓ret_ap, ↓ask_ap, ↓fail_ap, ↓ite_ap, ↓dVar, ↓getO, ↓putO, ↓setI, ↓setO, ↓takeO, ↓frzV, getElem?_0, getElem?_s, List.set_cons_zero, List.set_cons_succ, ↓seqM, ↓seqK, ↓thenN, ↓ifM, ↓andB, ↓orB, ↓notB, ↓andV, ↓orV, ↓notV, ↓asB, ↓do2, ↓chM, ↓consM, ↓consD, ↓consO, ↓tupM, ↓lstM, ↓olstM, ↓frzM, ↓resD, ↓resO, ↓callN, ↓callA, ↓allD, ↓split1, ↓callD, ↓call1, ↓callK, ↓ioAt, ↓putS, ↓finA, ↓defM, ↓un1, ↓un2, ↓truD, ↓isiD, D.kind, CT.is, ↓ltD, ↓leD, ↓gtD, ↓geD, ↓addD, ↓subD, ↓mulD, ↓modD, ↓fdivD, ↓powD, ↓isNonD, ↓notNonD, ↓negD, ↓lenD, ↓absD, ↓DL.intD, ↓max2D, ↓min2D, ↓divD, ↓tupD, ↓hgM, ↓hsM, ↓hcallM, ↓oixM, ↓olist, ↓asL, ↓ixL, ↓olenM, ↓oappM, ↓osetM, ↓opopM, ↓oremM, ↓oinM, ↓oset, ↓asS, ↓oaddM, ↓osinM, ↓otupM, ↓tRgM, ↓lRgM, ↓asgM, ↓setTw, ↓setKs, ↓setTup, ↓setIs, ↓parM, ↓setVs, ↓setV, ↓vD, ↓vO, ↓oins, ↓asI, ↓fsetM, putFD, ↓hallM, hallOf, ↓mkM, ↓DL.forM, ↓itR1, ↓itR2, ↓itLst, ↓itTup, ↓enTup, ↓enLst, ↓partM, ↓slM, ↓asT, ↓tidxM, Option.map, List.map_cons, List.map_nil, List.cons_append, List.nil_append, List.length_cons, List.length_nil, List.replicate, Nat.reduceAdd, Nat.reduceSub, Nat.sub_self, Bool.not_true, Bool.not_false, ↓if_true, ↓if_false, ↓ite_true, ↓ite_false, true_and, and_true, Bool.true_eq_false, Bool.false_eq_true, reduceIte, pick_eq, at3_0, at3_1, at3_2, ix3_0, ix3_1, ix3_2, ↓eqM_ii, ↓eqM_ni, ↓eqM_in, ↓eqM_ss, ↓neM_ii, ↓neM_ss, backE, oldS, ↓loopK_nx, ↓loopK_rt, ↓forL_nil, ↓forL_cons, sl0, sl1, sl2, sl3, sl4, sl5, sl6, sl7, sl8, forall_const, sm0, sm1, sm2, sm3, sm4, sm5, sm6, sm7, sm8, wipeE, ↓compL_n, ↓compL_c, ↓compM_ap, List.filterMap_cons, List.filterMap_nil, ↓odixM, ↓odinM, ↓odic, ↓asDi, ↓DL.keyD, ↓un1O, ↓listO, ↓tryM, ↓sortD, ↓DL.max1D, ↓otupV, ↓backM, ↓dictO, ↓maxTD, ↓oidxM, ↓lenRg, ↓lenR]
theorem q_two (C : Addr) (p : Pl) (v0 v1 v2 : DL.Slot) : ∃ p' : Pl, ∀ Q E, c_law_3 C [v0, v1, v2, .ow p.o, .no, .no] Q E = Q (.lst (List.replicate 4 (.bl true))) [v0, v1, v2, .ow p'.o, .no, .no] := by
  have b1 : -(2 ^ 62) ≤ (4 : Int) ∧ (4 : Int) < 2 ^ 62 := by decide
  obtain ⟨acc, env', ⟨p', v5, hm, rfl⟩, run⟩ := comp_run (ι := Unit) (env := fun _ => [v0, v1, v2, .ow p.o, .no, .no]) (items := bnd (consM (DL.ret (.int 4)) (DL.ret [])) itR1) (tg := setI 5) (vs := [5]) (cond := DL.ret true)
    (elt := bnd (bnd (consO 3 (DL.ret [])) (callN 1 (f_Ltwo_right C))) resD) ((nums 4).map .int) (fun _ Q E => by simp only [b1, range_nums, ↓bnd_ap, ↓ret_ap, ↓ask_ap, ↓fail_ap, ↓ite_ap, ↓dVar, ↓getO, ↓putO, ↓setI, ↓setO, ↓takeO, ↓frzV, getElem?_0, getElem?_s, List.set_cons_zero, List.set_cons_succ, ↓seqM, ↓seqK, ↓thenN, ↓ifM, ↓andB, ↓orB, ↓notB, ↓andV, ↓orV, ↓notV, ↓asB, ↓do2, ↓chM, ↓consM, ↓consD, ↓consO, ↓tupM, ↓lstM, ↓olstM, ↓frzM, ↓resD, ↓resO, ↓callN, ↓callA, ↓allD, ↓split1, ↓callD, ↓call1, ↓callK, ↓ioAt, ↓putS, ↓finA, ↓defM, ↓un1, ↓un2, ↓truD, ↓isiD, D.kind, CT.is, ↓ltD, ↓leD, ↓gtD, ↓geD, ↓addD, ↓subD, ↓mulD, ↓modD, ↓fdivD, ↓powD, ↓isNonD, ↓notNonD, ↓negD, ↓lenD, ↓absD, ↓DL.intD, ↓max2D, ↓min2D, ↓divD, ↓tupD, ↓hgM, ↓hsM, ↓hcallM, ↓oixM, ↓olist, ↓asL, ↓ixL, ↓olenM, ↓oappM, ↓osetM, ↓opopM, ↓oremM, ↓oinM, ↓oset, ↓asS, ↓oaddM, ↓osinM, ↓otupM, ↓tRgM, ↓lRgM, ↓asgM, ↓setTw, ↓setKs, ↓setTup, ↓setIs, ↓parM, ↓setVs, ↓setV, ↓vD, ↓vO, ↓oins, ↓asI, ↓fsetM, putFD, ↓hallM, hallOf, ↓mkM, ↓DL.forM, ↓itR1, ↓itR2, ↓itLst, ↓itTup, ↓enTup, ↓enLst, ↓partM, ↓slM, ↓asT, ↓tidxM, Option.map, List.map_cons, List.map_nil, List.cons_append, List.nil_append, List.length_cons, List.length_nil, List.replicate, Nat.reduceAdd, Nat.reduceSub, Nat.sub_self, Bool.not_true, Bool.not_false, ↓if_true, ↓if_false, ↓ite_true, ↓ite_false, true_and, and_true, Bool.true_eq_false, Bool.false_eq_true, reduceIte, pick_eq, at3_0, at3_1, at3_2, ix3_0, ix3_1, ix3_2, ↓eqM_ii, ↓eqM_ni, ↓eqM_in, ↓eqM_ss, ↓neM_ii, ↓neM_ss, backE, oldS, ↓loopK_nx, ↓loopK_rt, ↓forL_nil, ↓forL_cons, sl0, sl1, sl2, sl3, sl4, sl5, sl6, sl7, sl8, forall_const, sm0, sm1, sm2, sm3, sm4, sm5, sm6, sm7, sm8, wipeE, ↓compL_n, ↓compL_c, ↓compM_ap, List.filterMap_cons, List.filterMap_nil, ↓odixM, ↓odinM, ↓odic, ↓asDi, ↓DL.keyD, ↓un1O, ↓listO, ↓tryM, ↓sortD, ↓DL.max1D, ↓otupV, ↓backM, ↓dictO, ↓maxTD, ↓oidxM, ↓lenRg, ↓lenR])
    (fun i acc env => ∃ (p : Pl) (v5 : DL.Slot), acc = List.replicate i (.bl true) ∧ env = fun _ => [v0, v1, v2, .ow p.o, .no, v5]) ⟨p, .no, rfl, rfl⟩ (by
      rintro i d acc env hi ⟨p, v5, hm, rfl⟩
      have hi8 : i < 4 := by have := (List.getElem?_eq_some_iff.mp hi).1; rwa [List.length_map, nums_len] at this
      obtain ⟨p', run⟩ := p_two C p
      refine ⟨fun _ => [v0, v1, v2, .ow p.o, .no, .im d], true, fun _ => [v0, v1, v2, .ow p.o, .no, .im d], fun _ Q E => rfl, fun _ Q E => rfl, nofun, fun _ => ⟨.bl true, fun _ => [v0, v1, v2, .ow p'.o, .no, .im d], fun _ Q E => ?_, by rw [hm, List.length_replicate, sizeLine_eq]; omega, p', _, by rw [hm, List.replicate_succ'], rfl⟩⟩
      simp only [↓run, ↓bnd_ap, ↓ret_ap, ↓ask_ap, ↓fail_ap, ↓ite_ap, ↓dVar, ↓getO, ↓putO, ↓setI, ↓setO, ↓takeO, ↓frzV, getElem?_0, getElem?_s, List.set_cons_zero, List.set_cons_succ, ↓seqM, ↓seqK, ↓thenN, ↓ifM, ↓andB, ↓orB, ↓notB, ↓andV, ↓orV, ↓notV, ↓asB, ↓do2, ↓chM, ↓consM, ↓consD, ↓consO, ↓tupM, ↓lstM, ↓olstM, ↓frzM, ↓resD, ↓resO, ↓callN, ↓callA, ↓allD, ↓split1, ↓callD, ↓call1, ↓callK, ↓ioAt, ↓putS, ↓finA, ↓defM, ↓un1, ↓un2, ↓truD, ↓isiD, D.kind, CT.is, ↓ltD, ↓leD, ↓gtD, ↓geD, ↓addD, ↓subD, ↓mulD, ↓modD, ↓fdivD, ↓powD, ↓isNonD, ↓notNonD, ↓negD, ↓lenD, ↓absD, ↓DL.intD, ↓max2D, ↓min2D, ↓divD, ↓tupD, ↓hgM, ↓hsM, ↓hcallM, ↓oixM, ↓olist, ↓asL, ↓ixL, ↓olenM, ↓oappM, ↓osetM, ↓opopM, ↓oremM, ↓oinM, ↓oset, ↓asS, ↓oaddM, ↓osinM, ↓otupM, ↓tRgM, ↓lRgM, ↓asgM, ↓setTw, ↓setKs, ↓setTup, ↓setIs, ↓parM, ↓setVs, ↓setV, ↓vD, ↓vO, ↓oins, ↓asI, ↓fsetM, putFD, ↓hallM, hallOf, ↓mkM, ↓DL.forM, ↓itR1, ↓itR2, ↓itLst, ↓itTup, ↓enTup, ↓enLst, ↓partM, ↓slM, ↓asT, ↓tidxM, Option.map, List.map_cons, List.map_nil, List.cons_append, List.nil_append, List.length_cons, List.length_nil, List.replicate, Nat.reduceAdd, Nat.reduceSub, Nat.sub_self, Bool.not_true, Bool.not_false, ↓if_true, ↓if_false, ↓ite_true, ↓ite_false, true_and, and_true, Bool.true_eq_false, Bool.false_eq_true, reduceIte, pick_eq, at3_0, at3_1, at3_2, ix3_0, ix3_1, ix3_2, ↓eqM_ii, ↓eqM_ni, ↓eqM_in, ↓eqM_ss, ↓neM_ii, ↓neM_ss, backE, oldS, ↓loopK_nx, ↓loopK_rt, ↓forL_nil, ↓forL_cons, sl0, sl1, sl2, sl3, sl4, sl5, sl6, sl7, sl8, forall_const, sm0, sm1, sm2, sm3, sm4, sm5, sm6, sm7, sm8, wipeE, ↓compL_n, ↓compL_c, ↓compM_ap, List.filterMap_cons, List.filterMap_nil, ↓odixM, ↓odinM, ↓odic, ↓asDi, ↓DL.keyD, ↓un1O, ↓listO, ↓tryM, ↓sortD, ↓DL.max1D, ↓otupV, ↓backM, ↓dictO, ↓maxTD, ↓oidxM, ↓lenRg, ↓lenR])
  rw [List.length_map, nums_len] at hm
  subst hm
  refine ⟨p', fun Q E => ?_⟩
  have := run () Q E
  unfold c_law_3
  rw [show ([("_law_turn", 5)] : List (Str × Nat)).map (·.2) = [5] from rfl, this]
  rfl
theorem allM_reps (n : Nat) (env : List DL.Slot) (Q E) : allM (.lst (List.replicate n (.bl true))) env Q E = Q (.bl true) env := by
  have := all_yes (List.replicate n ()) env Q E
  rw [List.map_replicate] at this
  exact this
theorem turn2 (C : Addr) (ns : List Int) (k : Int) (hk : 0 ≤ k ∧ k < 1000) (v1 v3 : DL.Slot) (h3 : v3 = .no ∨ ∃ o, v3 = .ow o) : ∃ v3', (v3' = .no ∨ ∃ o, v3' = .ow o) ∧
    ∀ Q E, b_law_4 C [.im (.scr ns), v1, .im (.int k), v3, .no, .no] Q E = Q .nx [.im (.scr ns), v1, .im (.int k), v3', .no, .no] := by
  have pc := p_cell C ns k hk
  have po := p_pool C (cellV ns k)
  obtain ⟨p', run⟩ := q_two C ⟨cellV ns k % 2147483423, poolB (cellV ns k), 0⟩ (.im (.scr ns)) v1 (.im (.int k))
  have run : ∀ Q E, c_law_3 C [.im (.scr ns), v1, .im (.int k), .ow (.lst [.int (cellV ns k % 2147483423), .int (poolB (cellV ns k)), .int 0]), .no, .no] Q E = Q (.lst (List.replicate 4 (.bl true))) [.im (.scr ns), v1, .im (.int k), .ow p'.o, .no, .no] := run
  refine ⟨.ow p'.o, .inr ⟨_, rfl⟩, fun Q E => ?_⟩
  rcases h3 with e | ⟨o, e⟩ <;> subst e <;>
    simp only [↓b_law_4, ↓pc, ↓po, ↓run, ↓allM_reps, ↓bnd_ap, ↓ret_ap, ↓ask_ap, ↓fail_ap, ↓ite_ap, ↓dVar, ↓getO, ↓putO, ↓setI, ↓setO, ↓takeO, ↓frzV, getElem?_0, getElem?_s, List.set_cons_zero, List.set_cons_succ, ↓seqM, ↓seqK, ↓thenN, ↓ifM, ↓andB, ↓orB, ↓notB, ↓andV, ↓orV, ↓notV, ↓asB, ↓do2, ↓chM, ↓consM, ↓consD, ↓consO, ↓tupM, ↓lstM, ↓olstM, ↓frzM, ↓resD, ↓resO, ↓callN, ↓callA, ↓allD, ↓split1, ↓callD, ↓call1, ↓callK, ↓ioAt, ↓putS, ↓finA, ↓defM, ↓un1, ↓un2, ↓truD, ↓isiD, D.kind, CT.is, ↓ltD, ↓leD, ↓gtD, ↓geD, ↓addD, ↓subD, ↓mulD, ↓modD, ↓fdivD, ↓powD, ↓isNonD, ↓notNonD, ↓negD, ↓lenD, ↓absD, ↓DL.intD, ↓max2D, ↓min2D, ↓divD, ↓tupD, ↓hgM, ↓hsM, ↓hcallM, ↓oixM, ↓olist, ↓asL, ↓ixL, ↓olenM, ↓oappM, ↓osetM, ↓opopM, ↓oremM, ↓oinM, ↓oset, ↓asS, ↓oaddM, ↓osinM, ↓otupM, ↓tRgM, ↓lRgM, ↓asgM, ↓setTw, ↓setKs, ↓setTup, ↓setIs, ↓parM, ↓setVs, ↓setV, ↓vD, ↓vO, ↓oins, ↓asI, ↓fsetM, putFD, ↓hallM, hallOf, ↓mkM, ↓DL.forM, ↓itR1, ↓itR2, ↓itLst, ↓itTup, ↓enTup, ↓enLst, ↓partM, ↓slM, ↓asT, ↓tidxM, Option.map, List.map_cons, List.map_nil, List.cons_append, List.nil_append, List.length_cons, List.length_nil, List.replicate, Nat.reduceAdd, Nat.reduceSub, Nat.sub_self, Bool.not_true, Bool.not_false, ↓if_true, ↓if_false, ↓ite_true, ↓ite_false, true_and, and_true, Bool.true_eq_false, Bool.false_eq_true, reduceIte, pick_eq, at3_0, at3_1, at3_2, ix3_0, ix3_1, ix3_2, ↓eqM_ii, ↓eqM_ni, ↓eqM_in, ↓eqM_ss, ↓neM_ii, ↓neM_ss, backE, oldS, ↓loopK_nx, ↓loopK_rt, ↓forL_nil, ↓forL_cons, sl0, sl1, sl2, sl3, sl4, sl5, sl6, sl7, sl8, forall_const, sm0, sm1, sm2, sm3, sm4, sm5, sm6, sm7, sm8, wipeE, ↓compL_n, ↓compL_c, ↓compM_ap, List.filterMap_cons, List.filterMap_nil, ↓odixM, ↓odinM, ↓odic, ↓asDi, ↓DL.keyD, ↓un1O, ↓listO, ↓tryM, ↓sortD, ↓DL.max1D, ↓otupV, ↓backM, ↓dictO, ↓maxTD, ↓oidxM, ↓lenRg, ↓lenR]
theorem p_law (C : Addr) (ns : List Int) (h : ns.length ≤ 63) (Q E) : f_law C [.im (.scr ns)] Q E = Q (.d (.bl true)) [.im (.scr ns)] := by
  have m : ∃ t : Int, (2 ≤ t ∧ t ≤ 6) ∧ (if (if (6 : Int) < (ns.length : Int) then 6 else (ns.length : Int)) > 2 then (if (6 : Int) < (ns.length : Int) then 6 else (ns.length : Int)) else 2) = t := ⟨_, by split <;> split <;> omega, rfl⟩
  obtain ⟨t, ht, e⟩ := m
  have b1 : -(2 ^ 62) ≤ t ∧ t < 2 ^ 62 := by omega
  obtain ⟨v1, h1, r2⟩ := la2_ap C (.im (.scr ns))
  simp only [↓f_law, ↓laeq, ↓la1_ap, ↓r2, ↓la3, e, b1, range_nums, ↓bnd_ap, ↓ret_ap, ↓ask_ap, ↓fail_ap, ↓ite_ap, ↓dVar, ↓getO, ↓putO, ↓setI, ↓setO, ↓takeO, ↓frzV, getElem?_0, getElem?_s, List.set_cons_zero, List.set_cons_succ, ↓seqM, ↓seqK, ↓thenN, ↓ifM, ↓andB, ↓orB, ↓notB, ↓andV, ↓orV, ↓notV, ↓asB, ↓do2, ↓chM, ↓consM, ↓consD, ↓consO, ↓tupM, ↓lstM, ↓olstM, ↓frzM, ↓resD, ↓resO, ↓callN, ↓callA, ↓allD, ↓split1, ↓callD, ↓call1, ↓callK, ↓ioAt, ↓putS, ↓finA, ↓defM, ↓un1, ↓un2, ↓truD, ↓isiD, D.kind, CT.is, ↓ltD, ↓leD, ↓gtD, ↓geD, ↓addD, ↓subD, ↓mulD, ↓modD, ↓fdivD, ↓powD, ↓isNonD, ↓notNonD, ↓negD, ↓lenD, ↓absD, ↓DL.intD, ↓max2D, ↓min2D, ↓divD, ↓tupD, ↓hgM, ↓hsM, ↓hcallM, ↓oixM, ↓olist, ↓asL, ↓ixL, ↓olenM, ↓oappM, ↓osetM, ↓opopM, ↓oremM, ↓oinM, ↓oset, ↓asS, ↓oaddM, ↓osinM, ↓otupM, ↓tRgM, ↓lRgM, ↓asgM, ↓setTw, ↓setKs, ↓setTup, ↓setIs, ↓parM, ↓setVs, ↓setV, ↓vD, ↓vO, ↓oins, ↓asI, ↓fsetM, putFD, ↓hallM, hallOf, ↓mkM, ↓DL.forM, ↓itR1, ↓itR2, ↓itLst, ↓itTup, ↓enTup, ↓enLst, ↓partM, ↓slM, ↓asT, ↓tidxM, Option.map, List.map_cons, List.map_nil, List.cons_append, List.nil_append, List.length_cons, List.length_nil, List.replicate, Nat.reduceAdd, Nat.reduceSub, Nat.sub_self, Bool.not_true, Bool.not_false, ↓if_true, ↓if_false, ↓ite_true, ↓ite_false, true_and, and_true, Bool.true_eq_false, Bool.false_eq_true, reduceIte, pick_eq, at3_0, at3_1, at3_2, ix3_0, ix3_1, ix3_2, ↓eqM_ii, ↓eqM_ni, ↓eqM_in, ↓eqM_ss, ↓neM_ii, ↓neM_ss, backE, oldS, ↓loopK_nx, ↓loopK_rt, ↓forL_nil, ↓forL_cons, sl0, sl1, sl2, sl3, sl4, sl5, sl6, sl7, sl8, forall_const, sm0, sm1, sm2, sm3, sm4, sm5, sm6, sm7, sm8, wipeE, ↓compL_n, ↓compL_c, ↓compM_ap, List.filterMap_cons, List.filterMap_nil, ↓odixM, ↓odinM, ↓odic, ↓asDi, ↓DL.keyD, ↓un1O, ↓listO, ↓tryM, ↓sortD, ↓DL.max1D, ↓otupV, ↓backM, ↓dictO, ↓maxTD, ↓oidxM, ↓lenRg, ↓lenR]
  refine for_all (ds := (nums t).map .int) (fun i env => ∃ v2 v3, env = [.im (.scr ns), v1, v2, v3, .no, .no] ∧ (v2 = .no ∨ ∃ d, v2 = .im d) ∧ (v3 = .no ∨ ∃ o, v3 = .ow o)) ⟨_, _, rfl, .inl rfl, .inl rfl⟩ ?_ ?_
  · rintro i d env hi ⟨v2, v3, rfl, h2, h3⟩
    have hi' : i < t.toNat := by have := (List.getElem?_eq_some_iff.mp hi).1; rwa [List.length_map, nums_len] at this
    rw [List.getElem?_map, nums_get hi'] at hi
    cases hi
    obtain ⟨w3, h3', run⟩ := turn2 C ns i (by omega) v1 v3 h3
    exact ⟨_, _, setI_ok rfl (by rcases h2 with e | ⟨d, e⟩ <;> subst e <;> exact nofun), run, _, _, rfl, .inr ⟨_, rfl⟩, h3'⟩
  · rintro env ⟨v2, v3, rfl, _, _⟩
    simp only [↓la4, ↓bnd_ap, ↓ret_ap, ↓ask_ap, ↓fail_ap, ↓ite_ap, ↓dVar, ↓getO, ↓putO, ↓setI, ↓setO, ↓takeO, ↓frzV, getElem?_0, getElem?_s, List.set_cons_zero, List.set_cons_succ, ↓seqM, ↓seqK, ↓thenN, ↓ifM, ↓andB, ↓orB, ↓notB, ↓andV, ↓orV, ↓notV, ↓asB, ↓do2, ↓chM, ↓consM, ↓consD, ↓consO, ↓tupM, ↓lstM, ↓olstM, ↓frzM, ↓resD, ↓resO, ↓callN, ↓callA, ↓allD, ↓split1, ↓callD, ↓call1, ↓callK, ↓ioAt, ↓putS, ↓finA, ↓defM, ↓un1, ↓un2, ↓truD, ↓isiD, D.kind, CT.is, ↓ltD, ↓leD, ↓gtD, ↓geD, ↓addD, ↓subD, ↓mulD, ↓modD, ↓fdivD, ↓powD, ↓isNonD, ↓notNonD, ↓negD, ↓lenD, ↓absD, ↓DL.intD, ↓max2D, ↓min2D, ↓divD, ↓tupD, ↓hgM, ↓hsM, ↓hcallM, ↓oixM, ↓olist, ↓asL, ↓ixL, ↓olenM, ↓oappM, ↓osetM, ↓opopM, ↓oremM, ↓oinM, ↓oset, ↓asS, ↓oaddM, ↓osinM, ↓otupM, ↓tRgM, ↓lRgM, ↓asgM, ↓setTw, ↓setKs, ↓setTup, ↓setIs, ↓parM, ↓setVs, ↓setV, ↓vD, ↓vO, ↓oins, ↓asI, ↓fsetM, putFD, ↓hallM, hallOf, ↓mkM, ↓DL.forM, ↓itR1, ↓itR2, ↓itLst, ↓itTup, ↓enTup, ↓enLst, ↓partM, ↓slM, ↓asT, ↓tidxM, Option.map, List.map_cons, List.map_nil, List.cons_append, List.nil_append, List.length_cons, List.length_nil, List.replicate, Nat.reduceAdd, Nat.reduceSub, Nat.sub_self, Bool.not_true, Bool.not_false, ↓if_true, ↓if_false, ↓ite_true, ↓ite_false, true_and, and_true, Bool.true_eq_false, Bool.false_eq_true, reduceIte, pick_eq, at3_0, at3_1, at3_2, ix3_0, ix3_1, ix3_2, ↓eqM_ii, ↓eqM_ni, ↓eqM_in, ↓eqM_ss, ↓neM_ii, ↓neM_ss, backE, oldS, ↓loopK_nx, ↓loopK_rt, ↓forL_nil, ↓forL_cons, sl0, sl1, sl2, sl3, sl4, sl5, sl6, sl7, sl8, forall_const, sm0, sm1, sm2, sm3, sm4, sm5, sm6, sm7, sm8, wipeE, ↓compL_n, ↓compL_c, ↓compM_ap, List.filterMap_cons, List.filterMap_nil, ↓odixM, ↓odinM, ↓odic, ↓asDi, ↓DL.keyD, ↓un1O, ↓listO, ↓tryM, ↓sortD, ↓DL.max1D, ↓otupV, ↓backM, ↓dictO, ↓maxTD, ↓oidxM, ↓lenRg, ↓lenR]
theorem plain (C : Addr) (ns : List Int) (h : ns.length ≤ 63) : f_law C [.im (.scr ns)] (fun r _ => r = .d (.bl true)) (fun _ _ => False) := by
  rw [p_law C ns h]
end DLP

set_option Elab.async false
set_option linter.all false
set_option maxRecDepth 100000
set_option maxHeartbeats 4000000
namespace DLP
open PySem PySem.Spec PyProof.Rows L2 DL
theorem walkL {q : Program} {loose : List Str} {XP : (Str → Option Value) → Heap → Prop} {YP : World → Heap → Prop} {d : DefRec} {K : Params → PySem.W.Frag} (hdf : d.params.defaults = []) (hY : ∀ (w : World) (h : Heap), YP w h → (K w.params).In h)
    (F : ∀ (w : World) (mg : Str → Option Value) (fa : Addr) (h : Heap), (K w.params).In h → h.Ns mainGlobals mg → mg d.name = some (.ref fa) →
      ∃ (cs : List (Addr × Addr × Str)) (C : Addr) (fd : FuncData), TabsBy q (K w.params) cs [] ∧ (∀ (s : Shared) (u : Value), BindsTo s fd ⟨[u], []⟩ [("_law_script", u)]) ∧ ∀ base : Heap, (K w.params).In base → base.Ns mainGlobals mg → (∀ p ∈ cs, LamX.TabB base mg p.1 p.2.1) → FnG PySem.Challenge.rw_waitseats_k01_halls_told.prog w (K w.params) mg base 5 fa fd ["_law_script"] (@spD ⟨cs.map (·.2)⟩ ⟨C, mg, K w.params, w, PySem.Challenge.rw_waitseats_k01_halls_told.prog⟩ 1 (f_law C))) :
    PySem.W.WalkO q loose XP YP PySem.Challenge.rw_waitseats_k01_halls_told.row.toRowW d [] (fun f vs => PySem.call f vs) := walk0 hdf plain hY F
end DLP
open PySem PySem.W PyProof.Rows
set_option maxRecDepth 100000 in
set_option maxHeartbeats 0 in
theorem PySem.Challenge.cw_waitseats_k01_halls_told_holds : PySem.Challenge.rw_waitseats_k01_halls_told.Holds := by
  w_on; o_law; k_head; (case hw => w_witness2)
  k_fill
  refine DLP.walkL rfl (fun w h Y => PySem.W.kIn_of Y) ?F
  case F =>
    intro w mg fa h KX G hmg
    refine' DLP.all_mk KX G hmg ?ql0 ?qc0 ?qk0 ?qa0 ?ql1 ?qc1 ?qk1 ?qa1 ?qi1 ?ql2 ?qc2 ?qk2 ?qa2 ?ql3 ?qc3 ?qk3 ?qa3 ?qi3 ?ql4 ?qc4 ?qk4 ?qa4 ?qi4 ?ql5 ?qc5 ?qk5 ?qa5 ?qi5 ?ql6 ?qc6 ?qk6 ?qa6 ?qi6 ?ql7 ?qc7 ?qk7 ?qa7 ?qi7 ?ql8 ?qc8 ?qk8 ?qa8 ?ql9 ?qc9 ?qk9 ?qa9 ?ql10 ?qc10 ?qk10 ?qa10 ?ql11 ?qc11 ?qk11 ?qa11 ?ql12 ?qc12 ?qk12 ?qa12 ?ql13 ?qc13 ?qk13 ?qa13 ?qd ?gH ?pg ?hd ?po ?sa ?hca ?hcn ?hct ?hcm ?ng ?ns ?mkC ?kpC ?en ?eb ?qmn0 ?qmn1 ?qmn2 ?qmn3 ?qmn4 ?qmn5 ?qmn6 ?qo0 ?qo1 ?qo2 ?qo3 ?qo4 ?qo5 ?qo6 ?qo7 ?oh ?qr0 ?qr1 ?qr2 ?qr3 ?qr4 ?qr5 ?z_abs ?z_all ?z_any ?z_bool ?z_divmod ?z_int ?z_isinstance ?z_len ?z_list ?z_max ?z_min ?z_range ?z_repr ?z_str ?v_FAR ?v_MOST ?v_SPARE
    (case gH => k_is)
    (case qa0 => k_is)
    (case ql0 => k_is)
    (case qc0 => k_is)
    (case qk0 => k_is)
    (case qa1 => k_is)
    (case qi1 => k_is)
    (case ql1 => k_is)
    (case qc1 => k_is)
    (case qk1 => k_is)
    (case qa2 => k_is)
    (case ql2 => k_is)
    (case qc2 => k_is)
    (case qk2 => k_is)
    (case qa3 => k_is)
    (case qi3 => k_is)
    (case ql3 => k_is)
    (case qc3 => k_is)
    (case qk3 => k_is)
    (case qa4 => k_is)
    (case qi4 => k_is)
    (case ql4 => k_is)
    (case qc4 => k_is)
    (case qk4 => k_is)
    (case qa5 => k_is)
    (case qi5 => k_is)
    (case ql5 => k_is)
    (case qc5 => k_is)
    (case qk5 => k_is)
    (case qa6 => k_is)
    (case qi6 => k_is)
    (case ql6 => k_is)
    (case qc6 => k_is)
    (case qk6 => k_is)
    (case qa7 => k_is)
    (case qi7 => k_is)
    (case ql7 => k_is)
    (case qc7 => k_is)
    (case qk7 => k_is)
    (case qa8 => k_is)
    (case ql8 => k_is)
    (case qc8 => k_is)
    (case qk8 => k_is)
    (case qa9 => k_is)
    (case ql9 => k_is)
    (case qc9 => k_is)
    (case qk9 => k_is)
    (case qa10 => k_is)
    (case ql10 => k_is)
    (case qc10 => k_is)
    (case qk10 => k_is)
    (case qa11 => k_is)
    (case ql11 => k_is)
    (case qc11 => k_is)
    (case qk11 => k_is)
    (case qa12 => k_is)
    (case ql12 => k_is)
    (case qc12 => k_is)
    (case qk12 => k_is)
    (case qa13 => k_is)
    (case ql13 => k_is)
    (case qc13 => k_is)
    (case qk13 => k_is)
    (case qd => k_is)
    (case pg => k_is)
    (case hd => k_is)
    (case po => k_is)
    (case sa => k_is)
    (case hca => k_is)
    (case hcn => k_is)
    (case hct => k_is)
    (case hcm => k_is)
    (case ng => k_is)
    (case ns => k_is)
    (case mkC => k_is)
    (case kpC => k_is)
    (case en => k_is)
    (case eb => k_is)
    (case qmn0 => k_is)
    (case qmn1 => k_is)
    (case qmn2 => k_is)
    (case qmn3 => k_is)
    (case qmn4 => k_is)
    (case qmn5 => k_is)
    (case qmn6 => k_is)
    (case qo0 => kit_is)
    (case qo1 => kit_is)
    (case qo2 => kit_is)
    (case qo3 => kit_is)
    (case qo4 => kit_is)
    (case qo5 => kit_is)
    (case qo6 => kit_is)
    (case qo7 => kit_is)
    (case oh => kit_is)
    (case qr0 => kit_is)
    (case qr1 => kit_is)
    (case qr2 => kit_is)
    (case qr3 => kit_is)
    (case qr4 => kit_is)
    (case qr5 => kit_is)
    (case z_abs => k_is)
    (case z_all => k_is)
    (case z_any => k_is)
    (case z_bool => k_is)
    (case z_divmod => k_is)
    (case z_int => k_is)
    (case z_isinstance => k_is)
    (case z_len => k_is)
    (case z_list => k_is)
    (case z_max => k_is)
    (case z_min => k_is)
    (case z_range => k_is)
    (case z_repr => k_is)
    (case z_str => k_is)
    (case v_FAR => k_is)
    (case v_MOST => k_is)
    (case v_SPARE => k_is)

